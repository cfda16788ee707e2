import PyProof.Rows.All
import HandS.ForMost
import HandS.Exc
import HandS.ExcOwn
import HandS.TryOnly
import HandS.Star
import HandS.ExcCtx
import HandS.HotCalls
import HandS.TupAny
import HandS.Zip
import HandS.Style
import HandS.TupMul
import HandS.Deep
import HandS.DictTup
import HandS.Wide
import KE.SortCalls
import HandS.TupLen
import HandS.Conv
import HandS.SetFor
import HandS.RaiseMore
import KE.KDictPairs
import KE.KDictCopyH
import PyProof.DictTruth
import HandS.ExcIs
import HandS.HeadEnd
import HandS.Words
import KE.KStateDown
import HandS.Defaults
import HandS.Head0
import HandS.Head1
import HandS.Head2
import HandS.HeadHook1
import HandS.HeadHook2
import PyProof.ReprLen
import PyProof.Rows.ReprOcc
import KE.GoesZip
import KE.KIndexOf
import HandS.DictComp
import PySem.Challenge.RW_madefrom_k02_relations_that_are_kept
section
set_option Elab.async false
set_option linter.all false
set_option maxRecDepth 100000
set_option autoImplicit false
/-! EV1: deep values, the frozen part of the heap, slots; what a state of a def means -/
namespace EV
open PySem PySem.Spec PyProof.Rows L2

abbrev D := PyData
abbrev Sl := L2.St
/-- an owned, mutable thing of a def -/
inductive O where
  | lst (xs : List D) | dic (kvs : List (D × D))
/-- what a slot holds -/
inductive SV where
  | un | val (d : D) | own (o : O)
inductive R0 where
  | val (d : D) | own (o : O)
abbrev Sg := List SV
/-- an exception: its class by name, its one field -/
structure Xc where
  c : Str
  p : Option (Str × D)
inductive Re (α : Type) where
  | ok (a : α) (s : Sg) | ex (x : Xc) (s : Sg) | bad
def Re.bind {α β : Type} (x : Re α) (f : α → Sg → Re β) : Re β := match x with
  | .ok a s => f a s
  | .ex x s => .ex x s
  | .bad => .bad

/-! ### data and the abstract heap -/
def kD : Key → D
  | .inl i => .int i
  | .inr x => .str x
def kTD (ks : List Key) : D := .tuple (ks.map kD)
/-- a list that is read: tracked, or one of the module's own, as it stands -/
def LsR (K : PySem.W.Frag) (H : Hp) (a : Addr) (xs : List V) : Prop := Rd H a (.lst xs) ∨ ∃ (its : List Value) (n : Nat), K.lookup a = some { cls := .type "list", data := .seq its.toArray n } ∧ its.length ≤ sizeLine ∧ Vals xs its
theorem LsR.sq {K : PySem.W.Frag} {H : Hp} {a : Addr} {xs : List V} (h : LsR K H a xs) : SqL K H a xs := by
  rcases h with h | ⟨its, n, h1, h2, h3⟩
  · exact .inl h
  · exact .inr ⟨_, its.toArray, n, h1, rfl, rfl, rfl, by simpa using h2, by simpa using h3⟩
mutual
inductive Rp (K : PySem.W.Frag) (Φ : Hp) : V → D → Prop
  | non : Rp K Φ .non .none
  | bl (b : Bool) : Rp K Φ (.bl b) (.bool b)
  | int (i : Int) : Rp K Φ (.int i) (.int i)
  | str (x : Str) : Rp K Φ (.str x) (.str x)
  | lst {a : Addr} {xs : List V} {ds : List D} : LsR K Φ a xs → RpA K Φ xs ds → ds.length ≤ sizeLine → Rp K Φ (.ref a) (.list ds)
  | tup {a : Addr} {xs : List V} {ds : List D} : Φ a = some (.tup xs) → RpA K Φ xs ds → ds.length ≤ sizeLine → Rp K Φ (.ref a) (.tuple ds)
  | dK {a : Addr} {ws : List (Key × V)} {kvs : List (D × D)} : Φ a = some (.dK ws) → RpK K Φ (ws.map fun w => (kD w.1, w.2)) kvs → Rp K Φ (.ref a) (.dict kvs)
  | dT {a : Addr} {ws : List (List Key × V)} {kvs : List (D × D)} : Φ a = some (.dT ws) → RpK K Φ (ws.map fun w => (kTD w.1, w.2)) kvs → Rp K Φ (.ref a) (.dict kvs)
inductive RpA (K : PySem.W.Frag) (Φ : Hp) : List V → List D → Prop
  | nil : RpA K Φ [] []
  | cons {v : V} {vs : List V} {d : D} {ds : List D} : Rp K Φ v d → RpA K Φ vs ds → RpA K Φ (v :: vs) (d :: ds)
inductive RpK (K : PySem.W.Frag) (Φ : Hp) : List (D × V) → List (D × D) → Prop
  | nil : RpK K Φ [] []
  | cons {k : D} {v : V} {ws : List (D × V)} {d : D} {kvs : List (D × D)} : Rp K Φ v d → RpK K Φ ws kvs → RpK K Φ ((k, v) :: ws) ((k, d) :: kvs)
end

def Le (Φ H : Hp) : Prop := ∀ a o, Φ a = some o → H a = some o
theorem Le.refl (H : Hp) : Le H H := fun _ _ h => h
theorem Le.trans {A B C : Hp} (h : Le A B) (h' : Le B C) : Le A C := fun a o e => h' a o (h a o e)
section
variable {K : PySem.W.Frag} {Φ Ψ : Hp}
theorem Le.rd (l : Le Φ Ψ) {a : Addr} {u : HO} (h : Rd Φ a u) : Rd Ψ a u := by
  rcases h with h | ⟨o, h⟩
  · exact .inl (l _ _ h)
  · exact .inr ⟨o, l _ _ h⟩
theorem Le.ls (l : Le Φ Ψ) {a : Addr} {xs : List V} (h : LsR K Φ a xs) : LsR K Ψ a xs := by
  rcases h with h | h
  · exact .inl (l.rd h)
  · exact .inr h
theorem Le.sqL (l : Le Φ Ψ) {a : Addr} {xs : List V} (h : SqL K Φ a xs) : SqL K Ψ a xs := by
  rcases h with h | h
  · exact .inl (l.rd h)
  · exact .inr h
theorem Le.sqT (l : Le Φ Ψ) {a : Addr} {xs : List V} (h : SqT K Φ a xs) : SqT K Ψ a xs := by
  rcases h with h | h
  · exact .inl (l.rd h)
  · exact .inr h
mutual
theorem Rp.mono (l : Le Φ Ψ) : ∀ {v : V} {d : D}, Rp K Φ v d → Rp K Ψ v d
  | _, _, .non => .non
  | _, _, .bl b => .bl b
  | _, _, .int i => .int i
  | _, _, .str x => .str x
  | _, _, .lst h t z => .lst (l.ls h) (RpA.mono l t) z
  | _, _, .tup h t z => .tup (l _ _ h) (RpA.mono l t) z
  | _, _, .dK h t => .dK (l _ _ h) (RpK.mono l t)
  | _, _, .dT h t => .dT (l _ _ h) (RpK.mono l t)
theorem RpA.mono (l : Le Φ Ψ) : ∀ {v : List V} {d : List D}, RpA K Φ v d → RpA K Ψ v d
  | _, _, .nil => .nil
  | _, _, .cons h t => .cons (Rp.mono l h) (RpA.mono l t)
theorem RpK.mono (l : Le Φ Ψ) : ∀ {v : List (D × V)} {d : List (D × D)}, RpK K Φ v d → RpK K Ψ v d
  | _, _, .nil => .nil
  | _, _, .cons h t => .cons (Rp.mono l h) (RpK.mono l t)
end
theorem RpA.length {vs : List V} {ds : List D} (h : RpA K Φ vs ds) : vs.length = ds.length := by
  induction vs generalizing ds with
  | nil => cases h; rfl
  | cons v vs ih => cases h with | cons a b => simp [ih b]
theorem RpA.get {vs : List V} {ds : List D} (h : RpA K Φ vs ds) {i : Nat} {d : D} (e : ds[i]? = some d) : ∃ v, vs[i]? = some v ∧ Rp K Φ v d := by
  induction vs generalizing ds i with
  | nil => cases h; simp at e
  | cons v vs ih =>
    cases h with
    | cons a b =>
      cases i with
      | zero => simp at e; subst e; exact ⟨v, rfl, a⟩
      | succ i => simp at e; obtain ⟨u, h1, h2⟩ := ih b e; exact ⟨u, by simpa using h1, h2⟩
theorem RpA.append {vs ws : List V} {ds es : List D} (h : RpA K Φ vs ds) (h' : RpA K Φ ws es) : RpA K Φ (vs ++ ws) (ds ++ es) := by
  induction vs generalizing ds with
  | nil => cases h; exact h'
  | cons v vs ih => cases h with | cons a b => exact .cons a (ih b)
theorem RpA.one {v : V} {d : D} (h : Rp K Φ v d) : RpA K Φ [v] [d] := .cons h .nil
theorem RpA.take {vs : List V} {ds : List D} (n : Nat) (h : RpA K Φ vs ds) : RpA K Φ (vs.take n) (ds.take n) := by
  induction vs generalizing ds n with
  | nil => cases h; simp; exact .nil
  | cons v vs ih => cases h with | cons a b => cases n with
    | zero => exact .nil
    | succ n => exact .cons a (ih n b)
theorem RpA.drop {vs : List V} {ds : List D} (n : Nat) (h : RpA K Φ vs ds) : RpA K Φ (vs.drop n) (ds.drop n) := by
  induction vs generalizing ds n with
  | nil => cases h; simp; exact .nil
  | cons v vs ih => cases h with | cons a b => cases n with
    | zero => exact .cons a b
    | succ n => exact ih n b
theorem RpA.reverse {vs : List V} {ds : List D} (h : RpA K Φ vs ds) : RpA K Φ vs.reverse ds.reverse := by
  induction vs generalizing ds with
  | nil => cases h; exact .nil
  | cons v vs ih => cases h with | cons a b => simp; exact (ih b).append (.one a)
theorem RpA.dropLast {vs : List V} {ds : List D} (h : RpA K Φ vs ds) : RpA K Φ vs.dropLast ds.dropLast := by
  rw [List.dropLast_eq_take, List.dropLast_eq_take, h.length]; exact h.take _
theorem RpA.set {vs : List V} {ds : List D} (h : RpA K Φ vs ds) (i : Nat) {v : V} {d : D} (r : Rp K Φ v d) : RpA K Φ (vs.set i v) (ds.set i d) := by
  induction vs generalizing ds i with
  | nil => cases h; exact .nil
  | cons w vs ih => cases h with | cons a b => cases i with
    | zero => exact .cons r b
    | succ i => exact .cons a (ih b i)
theorem RpA.rep {vs : List V} {ds : List D} (h : RpA K Φ vs ds) : ∀ k : Nat, RpA K Φ (List.replicate k vs).flatten (List.replicate k ds).flatten
  | 0 => .nil
  | k + 1 => by simp only [List.replicate_succ, List.flatten_cons]; exact h.append (RpA.rep h k)
theorem RpA.ints {vs : List V} : ∀ {ns : List Int}, RpA K Φ vs (ns.map PyData.int) → vs = ns.map V.int := by
  induction vs with
  | nil => intro ns h; cases ns with
    | nil => rfl
    | cons n ns => cases h
  | cons v vs ih => intro ns h; cases ns with
    | nil => cases h
    | cons n ns => cases h with | cons a b => cases a; simp [ih b]
theorem RpA.bools {vs : List V} : ∀ {ns : List Bool}, RpA K Φ vs (ns.map PyData.bool) → vs = ns.map V.bl := by
  induction vs with
  | nil => intro ns h; cases ns with
    | nil => rfl
    | cons n ns => cases h
  | cons v vs ih => intro ns h; cases ns with
    | nil => cases h
    | cons n ns => cases h with | cons a b => cases a; simp [ih b]
theorem RpA.strs {vs : List V} : ∀ {ns : List Str}, RpA K Φ vs (ns.map PyData.str) → vs = ns.map V.str := by
  induction vs with
  | nil => intro ns h; cases ns with
    | nil => rfl
    | cons n ns => cases h
  | cons v vs ih => intro ns h; cases ns with
    | nil => cases h
    | cons n ns => cases h with | cons a b => cases a; simp [ih b]
end

/-! ### owned things, slots -/
def OwnR (K : PySem.W.Frag) (Φ H : Hp) (a : Addr) : O → Prop
  | .lst ds => ∃ vs, H a = some (.lst vs) ∧ RpA K Φ vs ds ∧ ds.length ≤ sizeLine
  | .dic kvs => (∃ ws, H a = some (.dK ws) ∧ RpK K Φ (ws.map fun w => (kD w.1, w.2)) kvs) ∨ (∃ ws, H a = some (.dT ws) ∧ RpK K Φ (ws.map fun w => (kTD w.1, w.2)) kvs)
section
variable {K : PySem.W.Frag} {Φ Ψ H G : Hp} {a : Addr} {o : O}
theorem OwnR.there (h : OwnR K Φ H a o) : H a ≠ none := by
  cases o with
  | lst ds => obtain ⟨vs, e, _⟩ := h; rw [e]; simp
  | dic kvs =>
    rcases h with ⟨vs, e, _⟩ | ⟨vs, e, _⟩ <;> (rw [e]; simp)
theorem OwnR.noTup (h : OwnR K Φ H a o) (xs : List V) : H a ≠ some (.tup xs) := by
  cases o with
  | lst ds => obtain ⟨vs, e, _⟩ := h; rw [e]; exact fun z => nomatch z
  | dic kvs =>
    rcases h with ⟨vs, e, _⟩ | ⟨vs, e, _⟩ <;> (rw [e]; exact fun z => nomatch z)
theorem OwnR.mono (l : Le Φ Ψ) (e : G a = H a) (h : OwnR K Φ H a o) : OwnR K Ψ G a o := by
  cases o with
  | lst ds => obtain ⟨vs, q, r, z⟩ := h; exact ⟨vs, e.trans q, r.mono l, z⟩
  | dic kvs =>
    rcases h with ⟨vs, q, r⟩ | ⟨vs, q, r⟩
    · exact .inl ⟨vs, e.trans q, r.mono l⟩
    · exact .inr ⟨vs, e.trans q, r.mono l⟩
def O.d : O → D
  | .lst ds => .list ds
  | .dic kvs => .dict kvs
/-- what is owned is laid into the frozen part -/
theorem OwnR.freeze (h : OwnR K Φ H a o) (n : Φ a = none) : ∃ u, H a = some u ∧ Rp K (upd Φ a u) (.ref a) o.d := by
  have le : ∀ u, Le Φ (upd Φ a u) := fun u b x e => by rw [upd_ne (ne_of_none e n)]; exact e
  cases o with
  | lst ds => obtain ⟨vs, q, r, z⟩ := h; exact ⟨_, q, .lst (.inl (.of upd_same)) (r.mono (le _)) z⟩
  | dic kvs =>
    rcases h with ⟨vs, q, r⟩ | ⟨vs, q, r⟩
    · exact ⟨_, q, .dK upd_same (r.mono (le _))⟩
    · exact ⟨_, q, .dT upd_same (r.mono (le _))⟩
end

/-- the slots, by the frozen part Φ of the heap H -/
structure EnvR (K : PySem.W.Frag) (Φ H : Hp) (env : Sg) (σ : Sl) : Prop where
  len : env.length = σ.length
  vl : ∀ (i : Nat) (d : D), env[i]? = some (.val d) → ∃ v, σ[i]? = some (some v) ∧ Rp K Φ v d
  ow : ∀ (i : Nat) (o : O), env[i]? = some (.own o) → ∃ a, σ[i]? = some (some (.ref a)) ∧ Φ a = none ∧ OwnR K Φ H a o
  dj : ∀ (i j : Nat) (o o' : O) (a : Addr), env[i]? = some (.own o) → env[j]? = some (.own o') → σ[i]? = some (some (.ref a)) → σ[j]? = some (some (.ref a)) → i = j
/-- the addresses that the slots own -/
def Ow (env : Sg) (σ : Sl) (a : Addr) : Prop := ∃ (i : Nat) (o : O), env[i]? = some (.own o) ∧ σ[i]? = some (some (.ref a))
/-- a state -/
structure Good (K : PySem.W.Frag) (Φ H : Hp) (env : Sg) (σ : Sl) : Prop where
  le : Le Φ H
  er : EnvR K Φ H env σ
/-- not there yet, or a tuple (which nobody owns) -/
def Nw (H : Hp) (a : Addr) : Prop := H a = none ∨ ∃ xs, H a = some (.tup xs)
/-- from one heap to a later one: what neither is owned nor new stays -/
structure Pres (Φ H : Hp) (A : Addr → Prop) (Φ' H' : Hp) (A' : Addr → Prop) : Prop where
  ff : Le Φ Φ'
  kp : ∀ a o, H a = some o → ¬ A a → H' a = some o
  nw : ∀ a, A' a → A a ∨ H a = none
  fz : ∀ a, Φ' a ≠ none → Φ a ≠ none ∨ A a ∨ Nw H a
theorem Pres.refl (Φ H : Hp) (A : Addr → Prop) : Pres Φ H A Φ H A := ⟨Le.refl _, fun _ _ h _ => h, fun _ h => .inl h, fun _ h => .inl h⟩
theorem Pres.trans {Φ H : Hp} {A : Addr → Prop} {Φ1 H1 : Hp} {A1 : Addr → Prop} {Φ2 H2 : Hp} {A2 : Addr → Prop} (p : Pres Φ H A Φ1 H1 A1) (q : Pres Φ1 H1 A1 Φ2 H2 A2) : Pres Φ H A Φ2 H2 A2 := by
  have back : ∀ a, A1 a ∨ H1 a = none → A a ∨ H a = none := fun a h => by
    rcases h with h | h
    · exact p.nw a h
    · cases e : H a with
      | none => exact .inr rfl
      | some o =>
        by_cases ha : A a
        · exact .inl ha
        · rw [p.kp a o e ha] at h; cases h
  refine ⟨p.ff.trans q.ff, fun a o e n => q.kp a o (p.kp a o e n) fun h => ?_, fun a h => back a (q.nw a h), fun a h => ?_⟩
  · rcases p.nw a h with h | h
    · exact n h
    · rw [e] at h; cases h
  · rcases q.fz a h with h | h
    · exact p.fz a h
    · rcases h with h | h | ⟨xs, h⟩
      · exact .inr ((back a (.inl h)).imp id .inl)
      · exact .inr ((back a (.inr h)).imp id .inl)
      · cases e : H a with
        | none => exact .inr (.inr (.inl e))
        | some o =>
          by_cases ha : A a
          · exact .inr (.inl ha)
          · have q := p.kp a o e ha
            rw [h] at q; cases q
            exact .inr (.inr (.inr ⟨xs, e⟩))
theorem Pres.mono {Φ H : Hp} {A B : Addr → Prop} {Φ1 H1 : Hp} {A1 B1 : Addr → Prop} (p : Pres Φ H A Φ1 H1 A1) (h : ∀ a, A a → B a) (h1 : ∀ a, B1 a → A1 a ∨ B a ∨ H a = none) : Pres Φ H B Φ1 H1 B1 :=
  ⟨p.ff, fun a o e n => p.kp a o e fun x => n (h a x), fun a x => by
    rcases h1 a x with y | y
    · exact (p.nw a y).imp (h a) id
    · exact y, fun a x => (p.fz a x).imp id fun y => y.imp (h a) id⟩

section
variable {K : PySem.W.Frag} {Φ H Φ' H' : Hp} {env : Sg} {σ : Sl} {a : Addr}
theorem EnvR.lt (E : EnvR K Φ H env σ) {i : Nat} {x : SV} (h : env[i]? = some x) : i < env.length := (List.getElem?_eq_some_iff.mp h).1
theorem Good.owned (g : Good K Φ H env σ) (h : Ow env σ a) : Φ a = none ∧ H a ≠ none := by
  obtain ⟨i, o, h1, h2⟩ := h
  obtain ⟨b, e, n, r⟩ := g.er.ow i o h1
  rw [h2] at e; cases e
  exact ⟨n, r.there⟩
/-- the heap grows, the frozen part grows by what is new -/
theorem Good.grow (g : Good K Φ H env σ) (l : Le Φ Φ') (l' : Le Φ' H') (k : ∀ a o, H a = some o → H' a = some o) (f : ∀ a, Φ' a ≠ none → Φ a ≠ none ∨ Nw H a) :
    Good K Φ' H' env σ ∧ Pres Φ H (Ow env σ) Φ' H' (Ow env σ) := by
  refine ⟨⟨l', g.er.len, fun i d e => ?_, fun i o e => ?_, g.er.dj⟩, l, fun a o e _ => k a o e, fun a h => .inl h, fun a h => (f a h).imp id .inr⟩
  · obtain ⟨v, q, r⟩ := g.er.vl i d e; exact ⟨v, q, r.mono l⟩
  · obtain ⟨b, q, n, r⟩ := g.er.ow i o e
    have nb := r.there
    refine ⟨b, q, ?_, r.mono l ?_⟩
    · cases z : Φ' b with
      | none => rfl
      | some u =>
        rcases f b (by rw [z]; simp) with y | y | ⟨xs, y⟩
        · exact absurd n y
        · exact absurd y nb
        · exact absurd y (r.noTup xs)
    · cases z : H b with
      | none => exact absurd z nb
      | some u => exact k b u z
end
end EV
end
section
set_option Elab.async false
set_option linter.all false
set_option maxRecDepth 100000
set_option autoImplicit false
/-! EV2: results, the readings of expressions by deep values -/
namespace EV
open PySem PySem.Spec PyProof.Rows L2

/-- a result: data; a new owned thing; the thing of a slot -/
inductive R where
  | val (d : D) | own (o : O) | slot (i : Nat)
def R.get (s : Sg) : R → Option D
  | .val d => some d
  | .own o => some o.d
  | .slot i => match s[i]? with
    | some (.val d) => some d
    | some (.own o) => some o.d
    | _ => none
abbrev Sem := Sg → Re R
/-- what stands at a value, frozen or owned -/
inductive CR (K : PySem.W.Frag) (Φ H : Hp) : V → D → Prop
  | fz {v : V} {d : D} : Rp K Φ v d → CR K Φ H v d
  | own {a : Addr} {o : O} : OwnR K Φ H a o → CR K Φ H (.ref a) o.d
/-- a result and its value -/
def RR (K : PySem.W.Frag) (Φ H : Hp) (env : Sg) (σ : Sl) (v : V) : R → Prop
  | .val d => Rp K Φ v d
  | .own o => ∃ a, v = .ref a ∧ Φ a = none ∧ OwnR K Φ H a o ∧ ¬ Ow env σ a
  | .slot i => σ[i]? = some (some v)
def RO (v : V) (b : Addr) : R → Prop
  | .own _ => v = .ref b
  | _ => False
/-- an exception and its class, its dict -/
def XcR (K : PySem.W.Frag) (mg : Str → Option Value) (Φ : Hp) (x : Xc) (cls : Value) (d : Option Addr) : Prop :=
  mg x.c = some cls ∧ match x.p with
    | none => d = none
    | some (f, p) => ∃ dd pv, d = some dd ∧ Φ dd = some (.xd [(f, pv)]) ∧ Rp K Φ pv p

section
variable {K : PySem.W.Frag} {mg : Str → Option Value} {W : WX} {σ : Sl} {Φ0 H0 Φ H : Hp} {A0 : Addr → Prop} {env : Sg}
/-- what a run's result, from the state (Φ0, H0, A0) on, is to give -/
def Out (K : PySem.W.Frag) (mg : Str → Option Value) (W : WX) (σ : Sl) (Φ0 H0 : Hp) (A0 : Addr → Prop) (res : Re R) (Q : VK) : Prop :=
  match res with
  | .ok r env' => ∀ v Φ' H', Good K Φ' H' env' σ → RR K Φ' H' env' σ v r → Pres Φ0 H0 A0 Φ' H' (fun b => Ow env' σ b ∨ RO v b r) → Q v H'
  | .ex x env' => ∀ Φ' H' cls d, Good K Φ' H' env' σ → XcR K mg Φ' x cls d → Pres Φ0 H0 A0 Φ' H' (Ow env' σ) → W cls d σ H'
  | .bad => False
def tR (K : PySem.W.Frag) (mg : Str → Option Value) (W : WX) (f : Sem) : TE := fun σ H Q => ∃ Φ env, Good K Φ H env σ ∧ Out K mg W σ Φ H (Ow env σ) (f env) Q
theorem Out.later {Φ1 H1 : Hp} {A1 : Addr → Prop} {res : Re R} {Q : VK} (p : Pres Φ0 H0 A0 Φ1 H1 A1) (h : Out K mg W σ Φ0 H0 A0 res Q) : Out K mg W σ Φ1 H1 A1 res Q := by
  cases res with
  | ok r s => exact fun v Φ' H' g r' q => h v Φ' H' g r' (p.trans q)
  | ex x s => exact fun Φ' H' cls d g r' q => h Φ' H' cls d g r' (p.trans q)
  | bad => exact h
theorem Out.mono {res : Re R} {Q Q' : VK} (h : Out K mg W σ Φ0 H0 A0 res Q) (i : ∀ v H', Q v H' → Q' v H') : Out K mg W σ Φ0 H0 A0 res Q' := by
  cases res with
  | ok r s => exact fun v Φ' H' g r' q => i _ _ (h v Φ' H' g r' q)
  | ex x s => exact h
  | bad => exact h
/-- the state behind a part -/
def Mid (K : PySem.W.Frag) (σ : Sl) (Φ0 H0 : Hp) (A0 : Addr → Prop) (r : R) (env : Sg) (v : V) (H : Hp) (C : Hp → Prop) : Prop :=
  ∃ Φ, Good K Φ H env σ ∧ RR K Φ H env σ v r ∧ Pres Φ0 H0 A0 Φ H (fun b => Ow env σ b ∨ RO v b r) ∧ C Φ
theorem Out.bind {res : Re R} {g : R → Sg → Re R} {Q : VK} (h : Out K mg W σ Φ0 H0 A0 (res.bind g) Q) :
    Out K mg W σ Φ0 H0 A0 res (fun v H' => ∃ r env', res = .ok r env' ∧ Mid K σ Φ0 H0 A0 r env' v H' fun _ => Out K mg W σ Φ0 H0 A0 (g r env') Q) := by
  cases res with
  | ok r s => exact fun v Φ' H' g' r' q => ⟨r, s, rfl, Φ', g', r', q, h⟩
  | ex x s => exact h
  | bad => exact h
/-- nothing owned is handed on -/
theorem Pres.plain {Φ1 H1 : Hp} {v : V} {r : R} (p : Pres Φ0 H0 A0 Φ1 H1 (fun b => Ow env σ b ∨ RO v b r)) (h : ∀ b, ¬ RO v b r) : Pres Φ0 H0 A0 Φ1 H1 (Ow env σ) :=
  ⟨p.ff, p.kp, fun a x => p.nw a (.inl x), p.fz⟩
theorem Pres.some {Φ1 H1 : Hp} {A1 B1 : Addr → Prop} (p : Pres Φ0 H0 A0 Φ1 H1 A1) (h : ∀ b, B1 b → A1 b) : Pres Φ0 H0 A0 Φ1 H1 B1 :=
  ⟨p.ff, p.kp, fun a x => p.nw a (h a x), p.fz⟩
end

/-! ### freezing -/
/-- an owned result becomes data -/
def R.fz : R → R
  | .own o => .val o.d
  | r => r
def fz (f : Sem) : Sem := fun s => (f s).bind fun r s' => .ok r.fz s'
section
variable {K : PySem.W.Frag} {Φ H : Hp} {env : Sg} {σ : Sl}
theorem upd_le {Φ : Hp} {a : Addr} {u : HO} (n : Φ a = none) : Le Φ (upd Φ a u) := fun b x e => by rw [upd_ne (ne_of_none e n)]; exact e
theorem upd_some {Φ : Hp} {a b : Addr} {u : HO} (h : upd Φ a u b ≠ none) : b = a ∨ Φ b ≠ none := by
  by_cases e : b = a
  · exact .inl e
  · rw [upd_ne e] at h; exact .inr h
/-- a thing at a, owned by nobody here, is frozen -/
theorem Good.freeze {a : Addr} {o : O} (g : Good K Φ H env σ) (n : Φ a = none) (w : OwnR K Φ H a o) (no : ¬ Ow env σ a) : ∃ u, H a = some u ∧ Good K (upd Φ a u) H env σ ∧ Rp K (upd Φ a u) (.ref a) o.d := by
  obtain ⟨u, hu, rp⟩ := w.freeze n
  refine ⟨u, hu, ⟨fun b x e => ?_, g.er.len, fun i d e => ?_, fun i o' e => ?_, g.er.dj⟩, rp⟩
  · by_cases hb : b = a
    · subst hb; rw [upd_same] at e; cases e; exact hu
    · rw [upd_ne hb] at e; exact g.le b x e
  · obtain ⟨v, q, r⟩ := g.er.vl i d e; exact ⟨v, q, r.mono (upd_le n)⟩
  · obtain ⟨b, q, nb, r⟩ := g.er.ow i o' e
    refine ⟨b, q, ?_, r.mono (upd_le n) rfl⟩
    rw [upd_ne]
    · exact nb
    · rintro rfl; exact no ⟨i, o', e, q⟩
theorem pres_freeze {Φ H : Hp} {A : Addr → Prop} {a : Addr} {u : HO} (n : Φ a = none) : Pres Φ H (fun b => A b ∨ b = a) (upd Φ a u) H A :=
  ⟨upd_le n, fun _ _ e _ => e, fun _ h => .inl (.inl h), fun b h => (upd_some h).elim (fun e => .inr (.inl (.inr e))) .inl⟩
end
section
variable {K : PySem.W.Frag} {mg : Str → Option Value} {W : WX} {σ : Sl} {Φ0 H0 : Hp} {A0 : Addr → Prop}
theorem Out.fz {res : Re R} {Q : VK} (h : Out K mg W σ Φ0 H0 A0 (res.bind fun r s' => .ok r.fz s') Q) : Out K mg W σ Φ0 H0 A0 res Q := by
  cases res with
  | ok r s =>
    cases r with
    | own o =>
      rintro v Φ' H' g ⟨a, rfl, n, w, no⟩ p
      obtain ⟨u, hu, g', rp⟩ := g.freeze n w no
      have q : Pres Φ' H' (fun b => Ow s σ b ∨ RO (.ref a) b (.own o)) (upd Φ' a u) H' (Ow s σ) :=
        ⟨upd_le n, fun _ _ e _ => e, fun _ h => .inl (.inl h), fun b h => (upd_some h).elim (fun e => .inr (.inl (.inr (by rw [e]; rfl)))) .inl⟩
      exact h _ _ _ g' rp ((p.trans q).some fun b h => h.elim id False.elim)
    | val d => exact h
    | slot i => exact h
  | ex x s => exact h
  | bad => exact h
end
/-- the reading of an expression, weakened -/
theorem PEimp {X : Cx} {e : Expr} {t t' : TE} (h : PE X e t) (i : ∀ σ H Q, t' σ H Q → t σ H Q) : PE X e t' := ⟨fun pins s σ H Q I q => h.run pins s σ H Q I (i σ H Q q)⟩
theorem PTimp {X : Cx} {e : Expr} {t t' : TT} (h : PT X e t) (i : ∀ σ H Q, t' σ H Q → t σ H Q) : PT X e t' := ⟨fun pins s σ H Q I q => h.run pins s σ H Q I (i σ H Q q)⟩
theorem PSimp {X : Cx} {e : Stmt} {t t' : TS} (h : PS X e t) (i : ∀ D σ H, t' D σ H → t D σ H) : PS X e t' := ⟨fun pins s σ H D I q => h.run pins s σ H D I (i D σ H q)⟩
theorem PSsimp {X : Cx} {e : List Stmt} {t t' : TS} (h : PSs X e t) (i : ∀ D σ H, t' D σ H → t D σ H) : PSs X e t' := ⟨fun pins s σ H D I q => h.run pins s σ H D I (i D σ H q)⟩

/-! ### operators by contents -/
/-- what an operation that changes nothing hands back: data over a grown heap, or a new owned thing -/
def RN (K : PySem.W.Frag) (Φ' H' H : Hp) (v : V) : R → Prop
  | .val d => Rp K Φ' v d
  | .own o => ∃ a, v = .ref a ∧ H a = none ∧ Φ' a = none ∧ OwnR K Φ' H' a o
  | .slot _ => False
def NewQ (K : PySem.W.Frag) (Φ H : Hp) (r : R) (Q : VK) : Prop :=
  ∀ v Φ' H', Le Φ Φ' → Le Φ' H' → Le H H' → (∀ a, Φ' a ≠ none → Φ a ≠ none ∨ Nw H a) → RN K Φ' H' H v r → Q v H'
section
variable {K : PySem.W.Frag} {Φ H : Hp} {Q : VK}
theorem NewQ.val {v : V} {d : D} (h : NewQ K Φ H (.val d) Q) (l : Le Φ H) (r : Rp K Φ v d) : Q v H := h v Φ H (Le.refl _) l (Le.refl _) (fun _ x => .inl x) r
theorem upd_le2 {Φ H : Hp} {a : Addr} {u : HO} (l : Le Φ H) : Le (upd Φ a u) (upd H a u) := fun b x e => by
  by_cases hb : b = a
  · subst hb; rw [upd_same] at e ⊢; exact e
  · rw [upd_ne hb] at e ⊢; exact l b x e
theorem Le.none {Φ H : Hp} (l : Le Φ H) {a : Addr} (n : H a = none) : Φ a = none := by
  cases e : Φ a with
  | none => rfl
  | some u => have := l _ _ e; rw [n] at this; cases this
/-- a new frozen thing -/
theorem NewQ.fresh {a : Addr} {u : HO} {d : D} (h : NewQ K Φ H (.val d) Q) (l : Le Φ H) (n : H a = none) (r : Rp K (upd Φ a u) (.ref a) d) : Q (.ref a) (upd H a u) :=
  h _ (upd Φ a u) (upd H a u) (upd_le (l.none n)) (upd_le2 l) (upd_le n) (fun b x => (upd_some x).elim (fun e => .inr (.inl (e ▸ n))) .inl) r
/-- a new owned thing -/
theorem NewQ.owned {a : Addr} {u : HO} {o : O} (h : NewQ K Φ H (.own o) Q) (l : Le Φ H) (n : H a = none) (r : OwnR K Φ (upd H a u) a o) : Q (.ref a) (upd H a u) :=
  h _ Φ (upd H a u) (Le.refl _) (l.trans (upd_le n)) (upd_le n) (fun _ x => .inl x) ⟨a, rfl, n, l.none n, r⟩
theorem NewQ.tup {a : Addr} {vs : List V} {ds : List D} (h : NewQ K Φ H (.val (.tuple ds)) Q) (l : Le Φ H) (n : H a = none) (r : RpA K Φ vs ds) (z : ds.length ≤ sizeLine) : Q (.ref a) (upd H a (.tup vs)) :=
  h.fresh l n (.tup upd_same (r.mono (upd_le (l.none n))) z)
theorem NewQ.lst {a : Addr} {vs : List V} {ds : List D} (h : NewQ K Φ H (.own (.lst ds)) Q) (l : Le Φ H) (n : H a = none) (r : RpA K Φ vs ds) (z : ds.length ≤ sizeLine) : Q (.ref a) (upd H a (.lst vs)) :=
  h.owned l n ⟨vs, upd_same, r, z⟩
end
def rP1 (K : PySem.W.Frag) (p : D → Option R) : V → Hp → VK → Prop := fun x H Q => ∃ Φ d r, Le Φ H ∧ CR K Φ H x d ∧ p d = some r ∧ NewQ K Φ H r Q
def rP2 (K : PySem.W.Frag) (p : D → D → Option R) : R2 := fun x y H Q => ∃ Φ d e r, Le Φ H ∧ CR K Φ H x d ∧ CR K Φ H y e ∧ p d e = some r ∧ NewQ K Φ H r Q
inductive CRs (K : PySem.W.Frag) (Φ H : Hp) : List V → List D → Prop
  | nil : CRs K Φ H [] []
  | cons {v : V} {vs : List V} {d : D} {ds : List D} : CR K Φ H v d → CRs K Φ H vs ds → CRs K Φ H (v :: vs) (d :: ds)
def rPn (K : PySem.W.Frag) (p : List D → Option R) : List V → Hp → VK → Prop := fun vs H Q => ∃ Φ ds r, Le Φ H ∧ CRs K Φ H vs ds ∧ p ds = some r ∧ NewQ K Φ H r Q
def rPm (K : PySem.W.Frag) (p : D → List D → Option R) : V → List V → Hp → VK → Prop := fun x vs H Q => ∃ Φ d ds r, Le Φ H ∧ CR K Φ H x d ∧ CRs K Φ H vs ds ∧ p d ds = some r ∧ NewQ K Φ H r Q
section
variable {K : PySem.W.Frag} {Φ H : Hp} {v : V}
theorem CR.listR {ds : List D} (h : CR K Φ H v (.list ds)) (l : Le Φ H) : ∃ a vs, v = .ref a ∧ LsR K H a vs ∧ RpA K Φ vs ds ∧ ds.length ≤ sizeLine := by
  generalize e : PyData.list ds = d at h
  cases h with
  | fz r => subst e; cases r with | lst s t z => exact ⟨_, _, rfl, l.ls s, t, z⟩
  | own w =>
    rename_i a o
    cases o with
    | lst ds' => cases e; obtain ⟨vs, q, r, z⟩ := w; exact ⟨a, vs, rfl, .inl (.of q), r, z⟩
    | dic => cases e
theorem CR.list {ds : List D} (h : CR K Φ H v (.list ds)) (l : Le Φ H) : ∃ a vs, v = .ref a ∧ SqL K H a vs ∧ RpA K Φ vs ds ∧ ds.length ≤ sizeLine :=
  let ⟨a, vs, h1, h2, h3⟩ := h.listR l; ⟨a, vs, h1, h2.sq, h3⟩
theorem CR.tupR {ds : List D} (h : CR K Φ H v (.tuple ds)) (l : Le Φ H) : ∃ a vs, v = .ref a ∧ H a = some (.tup vs) ∧ RpA K Φ vs ds ∧ ds.length ≤ sizeLine := by
  generalize e : PyData.tuple ds = d at h
  cases h with
  | fz r => subst e; cases r with | tup s t z => exact ⟨_, _, rfl, l _ _ s, t, z⟩
  | own w => rename_i a o; cases o <;> cases e
theorem CR.tuple {ds : List D} (h : CR K Φ H v (.tuple ds)) (l : Le Φ H) : ∃ a vs, v = .ref a ∧ SqT K H a vs ∧ RpA K Φ vs ds ∧ ds.length ≤ sizeLine :=
  let ⟨a, vs, h1, h2, h3⟩ := h.tupR l; ⟨a, vs, h1, .inl (.inl h2), h3⟩
theorem CR.int {i : Int} (h : CR K Φ H v (.int i)) : v = .int i := by
  generalize e : PyData.int i = d at h
  cases h with
  | fz r => subst e; cases r; rfl
  | own w => rename_i a o; cases o <;> cases e
theorem CR.bool {i : Bool} (h : CR K Φ H v (.bool i)) : v = .bl i := by
  generalize e : PyData.bool i = d at h
  cases h with
  | fz r => subst e; cases r; rfl
  | own w => rename_i a o; cases o <;> cases e
theorem CR.str {i : Str} (h : CR K Φ H v (.str i)) : v = .str i := by
  generalize e : PyData.str i = d at h
  cases h with
  | fz r => subst e; cases r; rfl
  | own w => rename_i a o; cases o <;> cases e
theorem CR.none (h : CR K Φ H v .none) : v = .non := by
  generalize e : PyData.none = d at h
  cases h with
  | fz r => subst e; cases r; rfl
  | own w => rename_i a o; cases o <;> cases e
/-- a dict, of either kind -/
theorem CR.dict {kvs : List (D × D)} (h : CR K Φ H v (.dict kvs)) (l : Le Φ H) : ∃ a, v = .ref a ∧ OwnR K Φ H a (.dic kvs) := by
  generalize e : PyData.dict kvs = d at h
  cases h with
  | fz r =>
    subst e
    cases r with
    | dK s t => exact ⟨_, rfl, .inl ⟨_, l _ _ s, t⟩⟩
    | dT s t => exact ⟨_, rfl, .inr ⟨_, l _ _ s, t⟩⟩
  | own w =>
    rename_i a o
    cases o with
    | lst ds' => cases e
    | dic => cases e; exact ⟨a, rfl, w⟩
/-- lists and tuples -/
def seqOf : D → Option (List D)
  | .list ds => some ds
  | .tuple ds => some ds
  | _ => none
theorem CR.seq {d : D} {ds : List D} (h : CR K Φ H v d) (l : Le Φ H) (e : seqOf d = some ds) : ∃ a vs, v = .ref a ∧ (SqL K H a vs ∨ SqT K H a vs) ∧ RpA K Φ vs ds ∧ ds.length ≤ sizeLine := by
  cases d <;> simp only [seqOf] at e <;> try cases e
  · obtain ⟨a, vs, h1, h2, h3⟩ := h.list l; exact ⟨a, vs, h1, .inl h2, h3⟩
  · obtain ⟨a, vs, h1, h2, h3⟩ := h.tuple l; exact ⟨a, vs, h1, .inr h2, h3⟩
/-- the content of a result that is not owned -/
theorem RR.content {env : Sg} {σ : Sl} {r : R} {d : D} (g : Good K Φ H env σ) (h : RR K Φ H env σ v r) (e : r.get env = some d) : CR K Φ H v d := by
  cases r with
  | val d' => cases e; exact .fz h
  | own o => obtain ⟨a, rfl, _, w, _⟩ := h; cases e; exact .own w
  | slot i =>
    have h : σ[i]? = some (some v) := h
    have e : (match env[i]? with | some (.val d) => some d | some (.own o) => some o.d | _ => none) = some d := e
    cases q : env[i]? with
    | none => rw [q] at e; cases e
    | some x =>
      rw [q] at e
      cases x with
      | un => cases e
      | val d' =>
        cases e
        obtain ⟨u, z, r⟩ := g.er.vl i _ q
        rw [h] at z; cases z; exact .fz r
      | own o =>
        cases e
        obtain ⟨a, z, _, w⟩ := g.er.ow i o q
        rw [h] at z; cases z; exact .own w
/-- a result that lasts -/
def R.last : R → Bool
  | .own _ => false
  | _ => true
theorem RR.later {env env' : Sg} {σ : Sl} {Φ' H' : Hp} {r : R} (h : RR K Φ H env σ v r) (hl : r.last = true) (l : Le Φ Φ') : RR K Φ' H' env' σ v r := by
  cases r with
  | val d => exact Rp.mono l h
  | own o => cases hl
  | slot i => exact h
theorem RO.not {r : R} (hl : r.last = true) (b : Addr) : ¬ RO v b r := by
  cases r with
  | own o => cases hl
  | _ => exact fun h => h
end
/-- f's results last -/
def Lasts (f : Sem) : Prop := ∀ s r s', f s = .ok r s' → r.last = true
theorem lasts_fz (f : Sem) : Lasts (fz f) := fun s r s' h => by
  unfold fz at h
  cases e : f s with
  | ok a t => rw [e] at h; cases h; cases a <;> rfl
  | ex x t => rw [e] at h; cases h
  | bad => rw [e] at h; cases h
end EV
end
section
set_option Elab.async false
set_option linter.all false
set_option maxRecDepth 100000
set_option autoImplicit false
/-! EV3: the text's facts, the context's facts; expressions: names, constants, displays, operators, calls of built-ins, methods -/
namespace EV
open PySem PySem.Spec PyProof.Rows L2

/-- the text as it stands behind the top -/
structure Tx where
  P : Program
  w : World
  K : PySem.W.Frag
  mg : Str → Option Value
  base : Heap
structure RoomE (k : Nat) (A : Around) : Prop where
  dp : A.depth + 3 * k + 5 < recursionLimit
  un : A.units + 16 * k + 200 < cLine
theorem RoomE.mono {j k : Nat} {A : Around} (r : RoomE k A) (h : j ≤ k) : RoomE j A := ⟨by have := r.dp; omega, by have := r.un; omega⟩
theorem RoomE.deeper {k : Nat} {A : Around} (r : RoomE (k + 1) A) (env : PySem.Env) : RoomE k (A.deeper env) :=
  ⟨by have := r.dp; show A.depth + 1 + 3 * k + 5 < _; omega, by have := r.un; show A.units + 3 + 16 * k + 200 < _; omega⟩
/-- cold: nothing is handled; top: a def's own block -/
structure Fx (T : Tx) (N : List Str) (sc : Scope) (cold top : Bool) (k : Nat) (X : Cx) (W : WX) : Prop where
  eP : X.prog = T.P
  ew : X.w = T.w
  eK : X.K = T.K
  em : X.mg = T.mg
  eb : X.base = T.base
  eN : X.N = N
  nd : N.Nodup
  es : X.env.scope = sc
  tk : L2N.Takes X W
  ps : PassesOwn (model X.prog X.w) X.A X.env X.xe
  rm : RoomE k X.A
  cal : cold = true → X.calm = true ∧ X.A.handled = none ∧ X.A.guards = some []
  fn : top = true → ∀ x, X.fn x = true
  tp : top = true → X.stack = X.env :: X.outer ∧ X.env.frame = some X.env.locals ∧ X.env.scope.kind = .function
def DE (T : Tx) (N : List Str) (sc : Scope) (cold top : Bool) (k : Nat) (e : Expr) (f : Sem) : Prop :=
  ∀ X W, Fx T N sc cold top k X W → PE X e (tR T.K T.mg W f)
section
variable {T : Tx} {N : List Str} {sc : Scope} {cold top : Bool} {k : Nat} {X : Cx} {W : WX}
theorem Room.ofE (r : RoomE k X.A) (h : X.A.handled = none) : Room k X.A := ⟨h, r.dp, r.un⟩
theorem de_fz {e : Expr} {f : Sem} (h : DE T N sc cold top k e f) : DE T N sc cold top k e (fz f) := fun X W F =>
  PEimp (h X W F) fun σ H Q ⟨Φ, env, g, o⟩ => ⟨Φ, env, g, o.fz⟩

/-! ### names, constants -/
def semC (d : D) : Sem := fun s => .ok (.val d) s
/-- a name, borrowed; frozen; handed on -/
def semNh (i : Nat) : Sem := fun s => match s[i]? with
  | some (.val d) => .ok (.val d) s
  | some (.own _) => .ok (.slot i) s
  | _ => .bad
def semNv (i : Nat) : Sem := fun s => match s[i]? with
  | some (.val d) => .ok (.val d) s
  | some (.own o) => .ok (.val o.d) (s.set i (.val o.d))
  | _ => .bad
def semNm (i : Nat) : Sem := fun s => match s[i]? with
  | some (.val d) => .ok (.val d) s
  | some (.own o) => .ok (.own o) (s.set i .un)
  | _ => .bad
theorem rp_const {K : PySem.W.Frag} {Φ : Hp} {v : V} {d : D} (h : Rp K (fun _ => none) v d) : Rp K Φ v d := h.mono fun _ _ e => by cases e
theorem tR_const {K : PySem.W.Frag} {mg : Str → Option Value} {v : V} {d : D} (h : Rp K (fun _ => none) v d) : ∀ σ H Q, tR K mg W (semC d) σ H Q → tC v σ H Q := fun σ H Q ⟨Φ, env, g, o⟩ =>
  o v Φ H g (rp_const h) ((Pres.refl _ _ _).some fun b h => h.elim id False.elim)
theorem de_int {i : Int} {j : Nat} {pos : Pos} : DE T N sc cold top k (.Constant (.int i) j pos) (semC (.int i)) := fun X W F => PEimp pe_int (tR_const (.int i))
theorem de_bl {b : Bool} {j : Nat} {pos : Pos} : DE T N sc cold top k (.Constant (.bool b) j pos) (semC (.bool b)) := fun X W F => PEimp pe_bl (tR_const (.bl b))
theorem de_non {j : Nat} {pos : Pos} : DE T N sc cold top k (.Constant .none j pos) (semC .none) := fun X W F => PEimp pe_non (tR_const .non)
theorem de_str {x : Str} {j : Nat} {pos : Pos} : DE T N sc cold top k (.Constant (.str x) j pos) (semC (.str x)) := fun X W F => PEimp pe_str (tR_const (.str x))
theorem de_glob {x : Str} {pos : Pos} {d : D} (hg : sc.names.lookup x = some .globalImplicit) (hm : ∃ u v, T.mg x = some u ∧ RelV v u ∧ Rp T.K (fun _ => none) v d) (hd : (x == ("__debug__" : Str)) = false) :
    DE T N sc cold top k (.Name x pos) (semC d) := fun X W F => by
  obtain ⟨u, v, h1, h2, h3⟩ := hm
  refine PEimp (pe_glob (X := X) (v := v) (u := u) ?_ ?_ h2 hd) (tR_const h3)
  · show X.env.scope.names.lookup x = _
    rw [F.es]; exact hg
  · rw [F.em]; exact h1

section
variable {K : PySem.W.Frag} {Φ H : Hp} {env : Sg} {σ : Sl}
theorem get_set_self {α : Type} {l : List α} {i : Nat} {x : α} (h : i < l.length) : (l.set i x)[i]? = some x := List.getElem?_set_self h
theorem get_set_ne {α : Type} {l : List α} {i j : Nat} {x : α} (h : i ≠ j) : (l.set i x)[j]? = l[j]? := List.getElem?_set_ne h
/-- the thing of a slot is frozen where it stands -/
theorem Good.freezeSlot {i : Nat} {o : O} {a : Addr} (g : Good K Φ H env σ) (e : env[i]? = some (.own o)) (es : σ[i]? = some (some (.ref a))) :
    ∃ u, H a = some u ∧ Good K (upd Φ a u) H (env.set i (.val o.d)) σ ∧ Rp K (upd Φ a u) (.ref a) o.d ∧ Pres Φ H (Ow env σ) (upd Φ a u) H (Ow (env.set i (.val o.d)) σ) := by
  obtain ⟨a', q, n, w⟩ := g.er.ow i o e
  rw [es] at q; cases q
  have hi := g.er.lt e
  obtain ⟨u, hu, rp⟩ := w.freeze n
  have sub : ∀ b, Ow (env.set i (.val o.d)) σ b → Ow env σ b := fun b ⟨j, o', h1, h2⟩ => by
    by_cases hj : i = j
    · subst hj; rw [get_set_self hi] at h1; cases h1
    · rw [get_set_ne hj] at h1; exact ⟨j, o', h1, h2⟩
  refine ⟨u, hu, ⟨fun b x z => ?_, by simpa using g.er.len, fun j d z => ?_, fun j o' z => ?_, fun j l o1 o2 b z1 z2 => ?_⟩, rp, upd_le n, fun _ _ z _ => z, fun b z => .inl (sub b z), fun b z => (upd_some z).elim (fun z => .inr (.inl (z ▸ ⟨i, o, e, es⟩))) .inl⟩
  · by_cases hb : b = a
    · subst hb; rw [upd_same] at z; cases z; exact hu
    · rw [upd_ne hb] at z; exact g.le b x z
  · by_cases hj : i = j
    · subst hj; rw [get_set_self hi] at z; cases z; exact ⟨_, es, rp⟩
    · rw [get_set_ne hj] at z
      obtain ⟨v, q, r⟩ := g.er.vl j d z; exact ⟨v, q, r.mono (upd_le n)⟩
  · by_cases hj : i = j
    · subst hj; rw [get_set_self hi] at z; cases z
    · rw [get_set_ne hj] at z
      obtain ⟨b, q, nb, r⟩ := g.er.ow j o' z
      refine ⟨b, q, ?_, r.mono (upd_le n) rfl⟩
      rw [upd_ne]
      · exact nb
      · rintro rfl; exact hj (g.er.dj i j o o' _ e z es q)
  · by_cases hj : i = j
    · subst hj; rw [get_set_self hi] at z1; cases z1
    · by_cases hl : i = l
      · subst hl; rw [get_set_self hi] at z2; cases z2
      · rw [get_set_ne hj] at z1; rw [get_set_ne hl] at z2
        exact g.er.dj j l o1 o2 b z1 z2
/-- the slot lets its thing go -/
theorem Good.drop {i : Nat} (g : Good K Φ H env σ) : Good K Φ H (env.set i .un) σ := by
  refine ⟨g.le, by simpa using g.er.len, fun j d z => ?_, fun j o' z => ?_, fun j l o1 o2 b z1 z2 => ?_⟩
  · by_cases hj : i = j
    · subst hj; rw [List.getElem?_set_self'] at z; cases q : env[i]? <;> (rw [q] at z; cases z)
    · rw [get_set_ne hj] at z; exact g.er.vl j d z
  · by_cases hj : i = j
    · subst hj; rw [List.getElem?_set_self'] at z; cases q : env[i]? <;> (rw [q] at z; cases z)
    · rw [get_set_ne hj] at z; exact g.er.ow j o' z
  · by_cases hj : i = j
    · subst hj; rw [List.getElem?_set_self'] at z1; cases q : env[i]? <;> (rw [q] at z1; cases z1)
    · by_cases hl : i = l
      · subst hl; rw [List.getElem?_set_self'] at z2; cases q : env[i]? <;> (rw [q] at z2; cases z2)
      · rw [get_set_ne hj] at z1; rw [get_set_ne hl] at z2; exact g.er.dj j l o1 o2 b z1 z2
theorem Ow.drop {i : Nat} {b : Addr} (h : Ow (env.set i .un) σ b) : Ow env σ b ∧ ∀ a, σ[i]? = some (some (.ref a)) → ∀ o, env[i]? = some (.own o) → EnvR K Φ H env σ → b ≠ a := by
  obtain ⟨j, o', h1, h2⟩ := h
  by_cases hj : i = j
  · subst hj; rw [List.getElem?_set_self'] at h1; cases q : env[i]? <;> (rw [q] at h1; cases h1)
  · rw [get_set_ne hj] at h1
    refine ⟨⟨j, o', h1, h2⟩, fun a ha o ho E z => ?_⟩
    subst z
    exact hj (E.dj i j o o' _ ho h1 ha h2)
end
theorem vis_of {x : Str} (h : (match sc.names.lookup x with | some .local => true | some .cell => true | some .free => true | _ => false) = true) : Vis sc x := by
  unfold Vis
  cases e : sc.names.lookup x with
  | none => rw [e] at h; cases h
  | some z => rw [e] at h; cases z <;> first | exact .inl rfl | exact .inr (.inl rfl) | exact .inr (.inr rfl) | cases h
section
variable {i : Nat} {x : Str} {pos : Pos} (hN : N[i]? = some x) (hv : Vis sc x) (hd : (x == ("__debug__" : Str)) = false) (hc : (x == ("__classdict__" : Str)) = false)
include hN hv hd hc
theorem pe_slot (F : Fx T N sc cold top k X W) : PE X (.Name x pos) (tVar i) := pe_var (X := X) (by rw [F.eN]; exact hN) (by rw [F.es]; exact hv) hd hc
theorem de_nh : DE T N sc cold top k (.Name x pos) (semNh i) := fun X W F => by
  refine PEimp (pe_slot hN hv hd hc F) fun σ H Q ⟨Φ, env, g, o⟩ => ?_
  unfold semNh at o
  cases e : env[i]? with
  | none => rw [e] at o; exact o.elim
  | some z =>
    rw [e] at o
    cases z with
    | un => exact o.elim
    | val d =>
      obtain ⟨v, q, r⟩ := g.er.vl i d e
      exact ⟨v, q, o v Φ H g r ((Pres.refl _ _ _).some fun b h => h.elim id False.elim)⟩
    | own d =>
      obtain ⟨a, q, n, r⟩ := g.er.ow i d e
      exact ⟨_, q, o _ Φ H g q ((Pres.refl _ _ _).some fun b h => h.elim id False.elim)⟩
theorem de_nv : DE T N sc cold top k (.Name x pos) (semNv i) := fun X W F => by
  refine PEimp (pe_slot hN hv hd hc F) fun σ H Q ⟨Φ, env, g, o⟩ => ?_
  unfold semNv at o
  cases e : env[i]? with
  | none => rw [e] at o; exact o.elim
  | some z =>
    rw [e] at o
    cases z with
    | un => exact o.elim
    | val d =>
      obtain ⟨v, q, r⟩ := g.er.vl i d e
      exact ⟨v, q, o v Φ H g r ((Pres.refl _ _ _).some fun b h => h.elim id False.elim)⟩
    | own d =>
      obtain ⟨a, q, n, r⟩ := g.er.ow i d e
      obtain ⟨u, hu, g', rp, p⟩ := g.freezeSlot e q
      exact ⟨_, q, o _ _ H g' rp (p.some fun b h => h.elim id False.elim)⟩
theorem de_nm : DE T N sc cold top k (.Name x pos) (semNm i) := fun X W F => by
  refine PEimp (pe_slot hN hv hd hc F) fun σ H Q ⟨Φ, env, g, o⟩ => ?_
  unfold semNm at o
  cases e : env[i]? with
  | none => rw [e] at o; exact o.elim
  | some z =>
    rw [e] at o
    cases z with
    | un => exact o.elim
    | val d =>
      obtain ⟨v, q, r⟩ := g.er.vl i d e
      exact ⟨v, q, o v Φ H g r ((Pres.refl _ _ _).some fun b h => h.elim id False.elim)⟩
    | own d =>
      obtain ⟨a, q, n, r⟩ := g.er.ow i d e
      refine ⟨_, q, o _ Φ H g.drop ⟨a, rfl, n, r, fun h => (Ow.drop h).2 a q d e g.er rfl⟩ ⟨Le.refl _, fun _ _ z _ => z, fun b h => ?_, fun _ z => .inl z⟩⟩
      rcases h with h | h
      · exact .inl (Ow.drop (K := T.K) (Φ := Φ) (H := H) h).1
      · cases (show V.ref a = V.ref b from h); exact .inl ⟨i, d, e, q⟩
end

/-! ### arguments -/
inductive Arg where
  | one (f : Sem) | star (f : Sem)
def semArgs : List Arg → Sg → Re (List R)
  | [], s => .ok [] s
  | .one f :: fs, s => (f s).bind fun r s1 => (semArgs fs s1).bind fun rs s2 => .ok (r :: rs) s2
  | .star f :: fs, s => (f s).bind fun r s1 => match (r.get s1).bind seqOf with
    | some ds => (semArgs fs s1).bind fun rs s2 => .ok (ds.map R.val ++ rs) s2
    | none => .bad
inductive RRs (K : PySem.W.Frag) (Φ H : Hp) (env : Sg) (σ : Sl) : List V → List R → Prop
  | nil : RRs K Φ H env σ [] []
  | cons {v : V} {vs : List V} {r : R} {rs : List R} : RR K Φ H env σ v r → r.last = true → RRs K Φ H env σ vs rs → RRs K Φ H env σ (v :: vs) (r :: rs)
def OutL (K : PySem.W.Frag) (mg : Str → Option Value) (W : WX) (σ : Sl) (Φ0 H0 : Hp) (A0 : Addr → Prop) (res : Re (List R)) (Q : List V → Hp → Prop) : Prop :=
  match res with
  | .ok rs env' => ∀ vs Φ' H', Good K Φ' H' env' σ → RRs K Φ' H' env' σ vs rs → Pres Φ0 H0 A0 Φ' H' (Ow env' σ) → Q vs H'
  | .ex x env' => ∀ Φ' H' cls d, Good K Φ' H' env' σ → XcR K mg Φ' x cls d → Pres Φ0 H0 A0 Φ' H' (Ow env' σ) → W cls d σ H'
  | .bad => False
def tL (K : PySem.W.Frag) (mg : Str → Option Value) (W : WX) (fs : List Arg) : TA := fun σ H Q => ∃ Φ env, Good K Φ H env σ ∧ OutL K mg W σ Φ H (Ow env σ) (semArgs fs env) Q
def DA (T : Tx) (N : List Str) (sc : Scope) (cold top : Bool) (k : Nat) (es : List Expr) (fs : List Arg) : Prop :=
  ∀ X W, Fx T N sc cold top k X W → PA X es (tL T.K T.mg W fs)
theorem PAimp {X : Cx} {e : List Expr} {t t' : TA} (h : PA X e t) (i : ∀ σ H Q, t' σ H Q → t σ H Q) : PA X e t' := ⟨fun p pins s σ H Q I q => h.run p pins s σ H Q I (i σ H Q q)⟩
section
variable {K : PySem.W.Frag} {mg : Str → Option Value} {σ : Sl} {Φ0 H0 : Hp} {A0 : Addr → Prop}
theorem OutL.later {Φ1 H1 : Hp} {A1 : Addr → Prop} {res : Re (List R)} {Q : List V → Hp → Prop} (p : Pres Φ0 H0 A0 Φ1 H1 A1) (h : OutL K mg W σ Φ0 H0 A0 res Q) : OutL K mg W σ Φ1 H1 A1 res Q := by
  cases res with
  | ok r s => exact fun v Φ' H' g r' q => h v Φ' H' g r' (p.trans q)
  | ex x s => exact fun Φ' H' cls d g r' q => h Φ' H' cls d g r' (p.trans q)
  | bad => exact h
/-- one result, then a list -/
theorem OutL.first {res : Re R} {g : R → Sg → Re (List R)} {Q : List V → Hp → Prop} (h : OutL K mg W σ Φ0 H0 A0 (res.bind g) Q) :
    Out K mg W σ Φ0 H0 A0 res (fun v H' => ∃ r env', res = .ok r env' ∧ Mid K σ Φ0 H0 A0 r env' v H' fun _ => OutL K mg W σ Φ0 H0 A0 (g r env') Q) := by
  cases res with
  | ok r s => exact fun v Φ' H' g' r' q => ⟨r, s, rfl, Φ', g', r', q, h⟩
  | ex x s => exact h
  | bad => exact h
theorem RRs.later {Φ H Φ' H' : Hp} {env env' : Sg} {vs : List V} {rs : List R} (h : RRs K Φ H env σ vs rs) (l : Le Φ Φ') : RRs K Φ' H' env' σ vs rs := by
  induction h with
  | nil => exact .nil
  | cons a b _ ih => exact .cons (a.later b l) b ih
theorem RRs.app {Φ H : Hp} {env : Sg} {vs ws : List V} {rs qs : List R} (h : RRs K Φ H env σ vs rs) (h' : RRs K Φ H env σ ws qs) : RRs K Φ H env σ (vs ++ ws) (rs ++ qs) := by
  induction h with
  | nil => exact h'
  | cons a b _ ih => exact .cons a b ih
theorem RRs.vals {Φ H : Hp} {env : Sg} : ∀ {vs : List V} {ds : List D}, RpA K Φ vs ds → RRs K Φ H env σ vs (ds.map R.val)
  | _, _, .nil => .nil
  | _, _, .cons a b => .cons a rfl (RRs.vals b)
/-- a list behind what has come -/
theorem OutL.then {res : Re (List R)} {g : List R → List R} {Q : List V → Hp → Prop} (h : OutL K mg W σ Φ0 H0 A0 (res.bind fun rs s => .ok (g rs) s) Q) :
    OutL K mg W σ Φ0 H0 A0 res (fun vs H' => ∃ rs env' Φ', Good K Φ' H' env' σ ∧ RRs K Φ' H' env' σ vs rs ∧ Pres Φ0 H0 A0 Φ' H' (Ow env' σ) ∧ ∀ ws, RRs K Φ' H' env' σ ws (g rs) → Q ws H') := by
  cases res with
  | ok r s => exact fun v Φ' H' g' r' q => ⟨r, s, Φ', g', r', q, fun ws hw => h ws Φ' H' g' hw q⟩
  | ex x s => exact h
  | bad => exact h
end
theorem OutL.mono {K : PySem.W.Frag} {mg : Str → Option Value} {σ : Sl} {Φ0 H0 : Hp} {A0 : Addr → Prop} {res : Re (List R)} {Q Q' : List V → Hp → Prop} (h : OutL K mg W σ Φ0 H0 A0 res Q) (i : ∀ v H', Q v H' → Q' v H') : OutL K mg W σ Φ0 H0 A0 res Q' := by
  cases res with
  | ok r s => exact fun v Φ' H' g r' q => i _ _ (h v Φ' H' g r' q)
  | ex x s => exact h
  | bad => exact h
theorem da_nil : DA T N sc cold top k [] [] := fun X W F => PAimp pa_nil fun σ H Q ⟨Φ, env, g, o⟩ => o [] Φ H g .nil (Pres.refl _ _ _)
/-- no star -/
def noStar : Expr → Bool
  | .Starred .. => false
  | _ => true
theorem starEach_one {e : Expr} {es : List Expr} {env : PySem.Env} (h : noStar e = true) : starEach (e :: es) env = (false, eval e env) :: starEach es env := by
  cases e <;> first | rfl | cases h
theorem starEach_plain {env : PySem.Env} {pos : Pos} : ∀ {es : List Expr}, es.all noStar = true → (backTo pos (starEach es env)).any (·.1) = false
  | [], _ => rfl
  | e :: es, h => by
    simp only [List.all_cons, Bool.and_eq_true] at h
    rw [starEach_one h.1]
    show (false || (backTo pos (starEach es env)).any (·.1)) = false
    rw [starEach_plain h.2]; rfl
theorem da_cons {e : Expr} {es : List Expr} {f : Sem} {fs : List Arg} (he : DE T N sc cold top k e f) (hl : Lasts f) (hr : DA T N sc cold top k es fs) (hs : noStar e = true) : DA T N sc cold top k (e :: es) (.one f :: fs) := fun X W F => by
  refine PAimp (pa_cons (he X W F) (hr X W F) (starEach_one hs)) fun σ H Q ⟨Φ, env, g, o⟩ => ⟨Φ, env, g, ?_⟩
  refine (OutL.first o).mono fun v H1 ⟨r, env1, e1, Φ1, g1, r1, p1, o1⟩ => ?_
  have hr1 := hl _ _ _ e1
  have p1' := p1.plain fun b => RO.not hr1 b
  refine ⟨Φ1, env1, g1, ?_⟩
  exact (OutL.then (o1.later p1')).mono fun ws H2 ⟨rs, env2, Φ2, g2, r2, p2, hq⟩ => hq (v :: ws) (.cons (r1.later hr1 p2.ff) hr1 r2)
theorem da_star {e : Expr} {es : List Expr} {f : Sem} {fs : List Arg} {p : Pos} (he : DE T N sc cold top k e f) (hl : Lasts f) (hr : DA T N sc cold top k es fs) : DA T N sc cold top k (.Starred e p :: es) (.star f :: fs) := fun X W F => by
  refine PAimp (StX.pa_star (he X W F) (hr X W F)) fun σ H Q ⟨Φ, env, g, o⟩ => ⟨Φ, env, g, ?_⟩
  refine (OutL.first o).mono fun v H1 ⟨r, env1, e1, Φ1, g1, r1, p1, o1⟩ => ?_
  have hr1 := hl _ _ _ e1
  have p1' := p1.plain fun b => RO.not hr1 b
  cases e2 : r.get env1 with
  | none => rw [e2] at o1; exact o1.elim
  | some d =>
    cases e3 : seqOf d with
    | none => simp only [e2, Option.bind, e3] at o1; exact o1.elim
    | some ds =>
      simp only [e2, Option.bind, e3] at o1
      obtain ⟨a, vs, rfl, sq, ra, _⟩ := (r1.content g1 e2).seq g1.le e3
      rw [F.eK]
      refine ⟨a, vs, rfl, sq.symm, Φ1, env1, g1, ?_⟩
      exact (OutL.then (o1.later p1')).mono fun ws H2 ⟨rs, env2, Φ2, g2, r2, p2, hq⟩ => hq (vs ++ ws) ((RRs.vals (ra.mono p2.ff)).app r2)
end
end EV
end
section
set_option Elab.async false
set_option linter.all false
set_option maxRecDepth 100000
set_option autoImplicit false
/-! EV4: displays, operators, built-ins, methods, tests -/
namespace EV
open PySem PySem.Spec PyProof.Rows L2

section
variable {K : PySem.W.Frag} {mg : Str → Option Value} {W : WX} {σ : Sl} {Φ0 H0 Φ H : Hp} {A0 : Addr → Prop} {env : Sg}
/-- what an operation that changes nothing hands back, behind a state -/
theorem NewQ.of {q : R} {Q : VK} (o : Out K mg W σ Φ0 H0 A0 (.ok q env) Q) (g : Good K Φ H env σ) (p : Pres Φ0 H0 A0 Φ H (Ow env σ)) : NewQ K Φ H q Q := by
  intro v Φ' H' l l' k f rn
  obtain ⟨g', p'⟩ := g.grow l l' k f
  cases q with
  | val d => exact o v Φ' H' g' rn ((p.trans p').some fun b h => h.elim id False.elim)
  | own x =>
    obtain ⟨a, rfl, n, n', w⟩ := rn
    refine o _ Φ' H' g' ⟨a, rfl, n', w, fun h => (g.owned h).2 n⟩ (p.trans ⟨p'.ff, p'.kp, fun b h => ?_, p'.fz⟩)
    rcases h with h | h
    · exact p'.nw b h
    · cases (show V.ref a = V.ref b from h); exact .inr n
  | slot i => exact rn.elim
def app1 (p : D → Option R) (r : R) (s : Sg) : Re R := match (r.get s).bind p with
  | some q => .ok q s
  | none => .bad
def app2 (p : D → D → Option R) (r r' : R) (s : Sg) : Re R := match (r.get s).bind fun d => (r'.get s).bind (p d) with
  | some q => .ok q s
  | none => .bad
def semUn (p : D → Option R) (f : Sem) : Sem := fun s => (f s).bind fun r s1 => app1 p r s1
def semBin (p : D → D → Option R) (f g : Sem) : Sem := fun s => (f s).bind fun r s1 => (g s1).bind fun r' s2 => app2 p r r' s2
def getAll (s : Sg) : List R → Option (List D)
  | [] => some []
  | r :: rs => (r.get s).bind fun d => (getAll s rs).bind fun ds => some (d :: ds)
def appn (p : List D → Option R) (rs : List R) (s : Sg) : Re R := match (getAll s rs).bind p with
  | some q => .ok q s
  | none => .bad
def appm (p : D → List D → Option R) (r : R) (rs : List R) (s : Sg) : Re R := match (r.get s).bind fun d => (getAll s rs).bind (p d) with
  | some q => .ok q s
  | none => .bad
def semCallB (p : List D → Option R) (fs : List Arg) : Sem := fun s => (semArgs fs s).bind fun rs s1 => appn p rs s1
def semMeth (p : D → List D → Option R) (f : Sem) (fs : List Arg) : Sem := fun s => (f s).bind fun r s1 => (semArgs fs s1).bind fun rs s2 => appm p r rs s2
theorem RRs.contents {rs : List R} {vs : List V} {ds : List D} (g : Good K Φ H env σ) (h : RRs K Φ H env σ vs rs) (e : getAll env rs = some ds) : CRs K Φ H vs ds := by
  induction h generalizing ds with
  | nil => cases e; exact .nil
  | cons a b c ih =>
    rename_i v vs r rs
    simp only [getAll] at e
    cases e1 : r.get env with
    | none => rw [e1] at e; cases e
    | some d =>
      rw [e1] at e
      cases e2 : getAll env rs with
      | none => rw [e2] at e; cases e
      | some ds' => rw [e2] at e; cases e; exact .cons (a.content g e1) (ih e2)
theorem OutL.bind {res : Re (List R)} {g : List R → Sg → Re R} {Q : VK} (h : Out K mg W σ Φ0 H0 A0 (res.bind g) Q) :
    OutL K mg W σ Φ0 H0 A0 res (fun vs H' => ∃ rs env' Φ', Good K Φ' H' env' σ ∧ RRs K Φ' H' env' σ vs rs ∧ Pres Φ0 H0 A0 Φ' H' (Ow env' σ) ∧ Out K mg W σ Φ0 H0 A0 (g rs env') Q) := by
  cases res with
  | ok r s => exact fun v Φ' H' g' r' q => ⟨r, s, Φ', g', r', q, h⟩
  | ex x s => exact h
  | bad => exact h
/-- two expressions, then what follows -/
theorem seq2 {f g : Sem} {G : R → R → Sg → Re R} {Q : VK} {H : Hp} (lf : Lasts f) (lg : Lasts g) (h : tR K mg W (fun s => (f s).bind fun r s1 => (g s1).bind fun r' s2 => G r r' s2) σ H Q) :
    tR K mg W f σ H fun x H1 => tR K mg W g σ H1 fun y H2 => ∃ Φ0 H0 A0 r r' env Φ, Good K Φ H2 env σ ∧ RR K Φ H2 env σ x r ∧ RR K Φ H2 env σ y r' ∧ Pres Φ0 H0 A0 Φ H2 (Ow env σ) ∧ Out K mg W σ Φ0 H0 A0 (G r r' env) Q := by
  obtain ⟨Φ, env, g0, o⟩ := h
  refine ⟨Φ, env, g0, (Out.bind o).mono fun v H1 ⟨r, env1, e1, Φ1, g1, r1, p1, o1⟩ => ⟨Φ1, env1, g1, ?_⟩⟩
  have p1' := p1.plain fun b => RO.not (lf _ _ _ e1) b
  refine (Out.bind (o1.later p1')).mono fun u H2 ⟨r', env2, e2, Φ2, g2, r2, p2, o2⟩ => ?_
  have p2' := p2.plain fun b => RO.not (lg _ _ _ e2) b
  exact ⟨_, _, _, r, r', env2, Φ2, g2, r1.later (lf _ _ _ e1) p2.ff, r2, p2', o2⟩
theorem app2_of {p : D → D → Option R} {r r' : R} {x y : V} {Q : VK} (g : Good K Φ H env σ) (hx : RR K Φ H env σ x r) (hy : RR K Φ H env σ y r') (pr : Pres Φ0 H0 A0 Φ H (Ow env σ)) (o : Out K mg W σ Φ0 H0 A0 (app2 p r r' env) Q) : rP2 K p x y H Q := by
  unfold app2 at o
  cases e1 : r.get env with
  | none => rw [e1] at o; exact o.elim
  | some d =>
    cases e2 : r'.get env with
    | none => rw [e1, e2] at o; exact o.elim
    | some e =>
      cases e3 : p d e with
      | none => simp only [e1, e2, Option.bind, e3] at o; exact o.elim
      | some q =>
        simp only [e1, e2, Option.bind, e3] at o
        exact ⟨Φ, d, e, q, g.le, hx.content g e1, hy.content g e2, e3, NewQ.of o g pr⟩
theorem app1_of {p : D → Option R} {r : R} {x : V} {Q : VK} (g : Good K Φ H env σ) (hx : RR K Φ H env σ x r) (pr : Pres Φ0 H0 A0 Φ H (Ow env σ)) (o : Out K mg W σ Φ0 H0 A0 (app1 p r env) Q) : rP1 K p x H Q := by
  unfold app1 at o
  cases e1 : r.get env with
  | none => rw [e1] at o; exact o.elim
  | some d =>
    cases e3 : p d with
    | none => simp only [e1, Option.bind, e3] at o; exact o.elim
    | some q =>
      simp only [e1, Option.bind, e3] at o
      exact ⟨Φ, d, q, g.le, hx.content g e1, e3, NewQ.of o g pr⟩
theorem appn_of {p : List D → Option R} {rs : List R} {xs : List V} {Q : VK} (g : Good K Φ H env σ) (hx : RRs K Φ H env σ xs rs) (pr : Pres Φ0 H0 A0 Φ H (Ow env σ)) (o : Out K mg W σ Φ0 H0 A0 (appn p rs env) Q) : rPn K p xs H Q := by
  unfold appn at o
  cases e1 : getAll env rs with
  | none => rw [e1] at o; exact o.elim
  | some d =>
    cases e3 : p d with
    | none => simp only [e1, Option.bind, e3] at o; exact o.elim
    | some q =>
      simp only [e1, Option.bind, e3] at o
      exact ⟨Φ, d, q, g.le, hx.contents g e1, e3, NewQ.of o g pr⟩
theorem appm_of {p : D → List D → Option R} {r : R} {rs : List R} {x : V} {xs : List V} {Q : VK} (g : Good K Φ H env σ) (hr : RR K Φ H env σ x r) (hx : RRs K Φ H env σ xs rs) (pr : Pres Φ0 H0 A0 Φ H (Ow env σ)) (o : Out K mg W σ Φ0 H0 A0 (appm p r rs env) Q) : rPm K p x xs H Q := by
  unfold appm at o
  cases e0 : r.get env with
  | none => rw [e0] at o; exact o.elim
  | some d0 =>
    cases e1 : getAll env rs with
    | none => rw [e0, e1] at o; exact o.elim
    | some d =>
      cases e3 : p d0 d with
      | none => simp only [e0, e1, Option.bind, e3] at o; exact o.elim
      | some q =>
        simp only [e0, e1, Option.bind, e3] at o
        exact ⟨Φ, d0, d, q, g.le, hr.content g e0, hx.contents g e1, e3, NewQ.of o g pr⟩
end

section
variable {T : Tx} {N : List Str} {sc : Scope} {cold top : Bool} {k : Nat} {X : Cx} {W : WX}
/-- two expressions, an operation by their values -/
theorem de_op {op : Operator} {a b : Expr} {pos : Pos} {p : D → D → Option R} {f g : Sem} (ho : ∀ X W, Fx T N sc cold top k X W → OpR X (binaryOp op) (rP2 T.K p)) (ha : DE T N sc cold top k a f) (hb : DE T N sc cold top k b g) (lf : Lasts f) (lg : Lasts g) :
    DE T N sc cold top k (.BinOp a op b pos) (semBin p f g) := fun X W F =>
  PEimp (pe_op (ho X W F) (ha X W F) (hb X W F)) fun σ H Q h => by
    obtain ⟨Φ, env, g0, o⟩ := seq2 lf lg h
    exact ⟨Φ, env, g0, o.mono fun x H1 ⟨Φ1, env1, g1, o1⟩ => ⟨Φ1, env1, g1, o1.mono fun y H2 ⟨_, _, _, r, r', env2, Φ2, g2, rx, ry, p2, o2⟩ => app2_of g2 rx ry p2 o2⟩⟩
theorem de_cmp {op : CmpOp} {a b : Expr} {pos : Pos} {p : D → D → Option R} {f g : Sem} (ho : ∀ X W, Fx T N sc cold top k X W → OpR X (compareOp op) (rP2 T.K p)) (ha : DE T N sc cold top k a f) (hb : DE T N sc cold top k b g) (lf : Lasts f) (lg : Lasts g) (hm : behindInMarks op b = false) :
    DE T N sc cold top k (.Compare a [op] [b] pos) (semBin p f g) := fun X W F =>
  PEimp (pe_cmpR (ho X W F) (ha X W F) (hb X W F) hm) fun σ H Q h => by
    obtain ⟨Φ, env, g0, o⟩ := seq2 lf lg h
    exact ⟨Φ, env, g0, o.mono fun x H1 ⟨Φ1, env1, g1, o1⟩ => ⟨Φ1, env1, g1, o1.mono fun y H2 ⟨_, _, _, r, r', env2, Φ2, g2, rx, ry, p2, o2⟩ => app2_of g2 rx ry p2 o2⟩⟩
theorem de_un {op : UnaryOp} {a : Expr} {pos : Pos} {p : D → Option R} {f : Sem} (ho : ∀ X W, Fx T N sc cold top k X W → UnR X (unaryOp op) (rP1 T.K p)) (ha : DE T N sc cold top k a f) (lf : Lasts f) :
    DE T N sc cold top k (.UnaryOp op a pos) (semUn p f) := fun X W F =>
  PEimp (pe_un (ho X W F) (ha X W F)) fun σ H Q ⟨Φ, env, g0, o⟩ => ⟨Φ, env, g0, (Out.bind o).mono fun v H1 ⟨r, env1, e1, Φ1, g1, r1, p1, o1⟩ => app1_of g1 r1 (p1.plain fun b => RO.not (lf _ _ _ e1) b) o1⟩
theorem gl_of (F : Fx T N sc cold top k X W) {x : Str} (h : sc.names.lookup x = some .globalImplicit) : Gl X x := by
  show X.env.scope.names.lookup x = _
  rw [F.es]; exact h
theorem de_callB {id : String} {x : Str} {es : List Expr} {e : Expr} {pp pos : Pos} {p : List D → Option R} {fs : List Arg} (ho : ∀ X W, Fx T N sc cold top k X W → CallR X (.builtin id) (rPn T.K p)) (ha : DA T N sc cold top k (e :: es) fs)
    (hg : sc.names.lookup x = some .globalImplicit) (hm : T.mg x = none) (hv : bootBuiltins x = some (.builtin id)) (hn : x ≠ "__name__") (hdb : (x == ("__debug__" : Str)) = false) (hs : (e :: es).all noStar = true) :
    DE T N sc cold top k (.Call (.Name x pp) (e :: es) [] pos) (semCallB p fs) := fun X W F => by
  have h1 : noStar e = true ∧ es.all noStar = true := by simpa [Bool.and_eq_true] using hs
  refine PEimp (pe_callB (ho X W F) (gl_of F hg) (by rw [F.em]; exact hm) hv (ha X W F) hn hdb (starEach_one h1.1) (starEach_plain h1.2)) fun σ H Q ⟨Φ, env, g0, o⟩ => ⟨Φ, env, g0, ?_⟩
  exact (OutL.bind o).mono fun vs H1 ⟨rs, env1, Φ1, g1, r1, p1, o1⟩ => appn_of g1 r1 p1 o1
theorem de_callTy {id : String} {x : Str} {es : List Expr} {e : Expr} {pp pos : Pos} {p : List D → Option R} {fs : List Arg} (ho : ∀ X W, Fx T N sc cold top k X W → CallR X (.type id) (rPn T.K p)) (ha : DA T N sc cold top k (e :: es) fs)
    (hg : sc.names.lookup x = some .globalImplicit) (hm : T.mg x = none) (hv : bootBuiltins x = some (.type id)) (hn : x ≠ "__name__") (hdb : (x == ("__debug__" : Str)) = false) (hs : (e :: es).all noStar = true) :
    DE T N sc cold top k (.Call (.Name x pp) (e :: es) [] pos) (semCallB p fs) := fun X W F => by
  have h1 : noStar e = true ∧ es.all noStar = true := by simpa [Bool.and_eq_true] using hs
  refine PEimp (pe_callTy (ho X W F) (gl_of F hg) (by rw [F.em]; exact hm) hv (ha X W F) hn hdb (starEach_one h1.1) (starEach_plain h1.2)) fun σ H Q ⟨Φ, env, g0, o⟩ => ⟨Φ, env, g0, ?_⟩
  exact (OutL.bind o).mono fun vs H1 ⟨rs, env1, Φ1, g1, r1, p1, o1⟩ => appn_of g1 r1 p1 o1
/-- displays -/
def valsOf : List R → Option (List D)
  | [] => some []
  | .val d :: rs => (valsOf rs).bind fun ds => some (d :: ds)
  | _ :: _ => none
theorem RRs.valsOf {K : PySem.W.Frag} {Φ H : Hp} {env : Sg} {σ : Sl} {vs : List V} {rs : List R} {ds : List D} (h : RRs K Φ H env σ vs rs) (e : EV.valsOf rs = some ds) : RpA K Φ vs ds := by
  induction h generalizing ds with
  | nil => cases e; exact .nil
  | cons a b c ih =>
    rename_i v vs r rs
    cases r with
    | val d =>
      simp only [EV.valsOf] at e
      cases e2 : EV.valsOf rs with
      | none => rw [e2] at e; cases e
      | some ds' => rw [e2] at e; cases e; exact .cons a (ih e2)
    | own o => cases e
    | slot i => cases e
def semTup (fs : List Arg) : Sem := fun s => (semArgs fs s).bind fun rs s1 => match valsOf rs with
  | some ds => if ds.length ≤ sizeLine then .ok (.val (.tuple ds)) s1 else .bad
  | none => .bad
def semLst (fs : List Arg) : Sem := fun s => (semArgs fs s).bind fun rs s1 => match valsOf rs with
  | some ds => if ds.length ≤ sizeLine then .ok (.own (.lst ds)) s1 else .bad
  | none => .bad
theorem de_tup {es : List Expr} {j : Nat} {pos : Pos} {fs : List Arg} (h : DA T N sc cold top k es fs) : DE T N sc cold top k (.Tuple es j pos) (semTup fs) := fun X W F =>
  PEimp (pe_tup (h X W F)) fun σ H Q ⟨Φ, env, g0, o⟩ => ⟨Φ, env, g0, (OutL.bind o).mono fun vs H1 ⟨rs, env1, Φ1, g1, r1, p1, o1⟩ => by
    cases e : valsOf rs with
    | none => rw [e] at o1; exact o1.elim
    | some ds =>
      simp only [e] at o1
      have ra := r1.valsOf e
      split at o1
      · rename_i hz
        exact ⟨by rw [ra.length]; exact hz, fun p hp => (NewQ.of o1 g1 p1).tup g1.le hp ra hz⟩
      · exact o1.elim⟩
theorem de_lst {es : List Expr} {pos : Pos} {fs : List Arg} (h : DA T N sc cold top k es fs) : DE T N sc cold top k (.List es pos) (semLst fs) := fun X W F =>
  PEimp (pe_lst (h X W F)) fun σ H Q ⟨Φ, env, g0, o⟩ => ⟨Φ, env, g0, (OutL.bind o).mono fun vs H1 ⟨rs, env1, Φ1, g1, r1, p1, o1⟩ => by
    cases e : valsOf rs with
    | none => rw [e] at o1; exact o1.elim
    | some ds =>
      simp only [e] at o1
      have ra := r1.valsOf e
      split at o1
      · rename_i hz
        exact ⟨by rw [ra.length]; exact hz, fun p hp => (NewQ.of o1 g1 p1).lst g1.le hp ra hz⟩
      · exact o1.elim⟩

/-! ### tests -/
def OutB (K : PySem.W.Frag) (mg : Str → Option Value) (W : WX) (σ : Sl) (Φ0 H0 : Hp) (A0 : Addr → Prop) (res : Re Bool) (Q : Bool → Hp → Prop) : Prop :=
  match res with
  | .ok b env' => ∀ Φ' H', Good K Φ' H' env' σ → Pres Φ0 H0 A0 Φ' H' (Ow env' σ) → Q b H'
  | .ex x env' => ∀ Φ' H' cls d, Good K Φ' H' env' σ → XcR K mg Φ' x cls d → Pres Φ0 H0 A0 Φ' H' (Ow env' σ) → W cls d σ H'
  | .bad => False
abbrev SemB := Sg → Re Bool
def tB (K : PySem.W.Frag) (mg : Str → Option Value) (W : WX) (f : SemB) : TT := fun σ H Q => ∃ Φ env, Good K Φ H env σ ∧ OutB K mg W σ Φ H (Ow env σ) (f env) Q
def DT (T : Tx) (N : List Str) (sc : Scope) (cold top : Bool) (k : Nat) (e : Expr) (f : SemB) : Prop := ∀ X W, Fx T N sc cold top k X W → PT X e (tB T.K T.mg W f)
def DW (T : Tx) (N : List Str) (sc : Scope) (cold top : Bool) (k : Nat) (e : Expr) (f : SemB) : Prop := ∀ X W, Fx T N sc cold top k X W → PW X e (tB T.K T.mg W f)
theorem PWimp {X : Cx} {e : Expr} {t t' : TT} (h : PW X e t) (i : ∀ σ H Q, t' σ H Q → t σ H Q) : PW X e t' := ⟨fun wh pins s σ H Q I q => h.run wh pins s σ H Q I (i σ H Q q)⟩
theorem dw_dt {e : Expr} {f : SemB} (h : DW T N sc cold top k e f) : DT T N sc cold top k e f := fun X W F => (h X W F).pt
section
variable {K : PySem.W.Frag} {mg : Str → Option Value} {σ : Sl} {Φ0 H0 Φ H : Hp} {A0 : Addr → Prop} {env : Sg}
theorem OutB.later {Φ1 H1 : Hp} {A1 : Addr → Prop} {res : Re Bool} {Q : Bool → Hp → Prop} (p : Pres Φ0 H0 A0 Φ1 H1 A1) (h : OutB K mg W σ Φ0 H0 A0 res Q) : OutB K mg W σ Φ1 H1 A1 res Q := by
  cases res with
  | ok r s => exact fun Φ' H' g q => h Φ' H' g (p.trans q)
  | ex x s => exact fun Φ' H' cls d g r' q => h Φ' H' cls d g r' (p.trans q)
  | bad => exact h
theorem OutB.mono {res : Re Bool} {Q Q' : Bool → Hp → Prop} (h : OutB K mg W σ Φ0 H0 A0 res Q) (i : ∀ v H', Q v H' → Q' v H') : OutB K mg W σ Φ0 H0 A0 res Q' := by
  cases res with
  | ok r s => exact fun Φ' H' g q => i _ _ (h Φ' H' g q)
  | ex x s => exact h
  | bad => exact h
/-- behind a test: a test, an expression -/
theorem OutB.bindB {res : Re Bool} {g : Bool → Sg → Re Bool} {Q : Bool → Hp → Prop} (h : OutB K mg W σ Φ0 H0 A0 (res.bind g) Q) :
    OutB K mg W σ Φ0 H0 A0 res (fun b H' => ∃ Φ' env', Good K Φ' H' env' σ ∧ Pres Φ0 H0 A0 Φ' H' (Ow env' σ) ∧ OutB K mg W σ Φ0 H0 A0 (g b env') Q) := by
  cases res with
  | ok r s => exact fun Φ' H' g' q => ⟨Φ', s, g', q, h⟩
  | ex x s => exact h
  | bad => exact h
theorem OutB.bind {res : Re Bool} {g : Bool → Sg → Re R} {Q : VK} (h : Out K mg W σ Φ0 H0 A0 (res.bind g) Q) :
    OutB K mg W σ Φ0 H0 A0 res (fun b H' => ∃ Φ' env', Good K Φ' H' env' σ ∧ Pres Φ0 H0 A0 Φ' H' (Ow env' σ) ∧ Out K mg W σ Φ0 H0 A0 (g b env') Q) := by
  cases res with
  | ok r s => exact fun Φ' H' g' q => ⟨Φ', s, g', q, h⟩
  | ex x s => exact h
  | bad => exact h
/-- behind an expression: a test -/
theorem Out.bindB {res : Re R} {g : R → Sg → Re Bool} {Q : Bool → Hp → Prop} (h : OutB K mg W σ Φ0 H0 A0 (res.bind g) Q) :
    Out K mg W σ Φ0 H0 A0 res (fun v H' => ∃ r env', res = .ok r env' ∧ Mid K σ Φ0 H0 A0 r env' v H' fun _ => OutB K mg W σ Φ0 H0 A0 (g r env') Q) := by
  cases res with
  | ok r s => exact fun v Φ' H' g' r' q => ⟨r, s, rfl, Φ', g', r', q, h⟩
  | ex x s => exact h
  | bad => exact h
end
def semNot (f : SemB) : SemB := fun s => (f s).bind fun b s1 => .ok (!b) s1
def semAnd (f g : SemB) : SemB := fun s => (f s).bind fun b s1 => if b = true then g s1 else .ok false s1
def semOr (f g : SemB) : SemB := fun s => (f s).bind fun b s1 => if b = true then .ok true s1 else g s1
def semIf (c : SemB) (f g : Sem) : Sem := fun s => (c s).bind fun b s1 => if b = true then f s1 else g s1
theorem dt_not {a : Expr} {pos : Pos} {f : SemB} (h : DT T N sc cold top k a f) : DT T N sc cold top k (.UnaryOp .Not a pos) (semNot f) := fun X W F =>
  PTimp (pt_not (h X W F)) fun σ H Q ⟨Φ, env, g, o⟩ => ⟨Φ, env, g, (OutB.bindB o).mono fun b H1 ⟨Φ1, env1, g1, p1, o1⟩ => o1 Φ1 H1 g1 p1⟩
theorem dw_and1 {a : Expr} {pos : Pos} {f : SemB} (h : DT T N sc cold top k a f) : DW T N sc cold top k (.BoolOp .And [a] pos) f := fun X W F => pw_and1 (h X W F)
theorem dw_or1 {a : Expr} {pos : Pos} {f : SemB} (h : DT T N sc cold top k a f) : DW T N sc cold top k (.BoolOp .Or [a] pos) f := fun X W F => pw_or1 (h X W F)
theorem dw_and {a b : Expr} {r : List Expr} {pos : Pos} {f g : SemB} (h : DT T N sc cold top k a f) (h' : DW T N sc cold top k (.BoolOp .And (b :: r) pos) g) : DW T N sc cold top k (.BoolOp .And (a :: b :: r) pos) (semAnd f g) := fun X W F =>
  PWimp (pw_and (h X W F) (h' X W F)) fun σ H Q ⟨Φ, env, g0, o⟩ => ⟨Φ, env, g0, (OutB.bindB o).mono fun b H1 ⟨Φ1, env1, g1, p1, o1⟩ => by
    cases b with
    | true => rw [if_pos rfl] at o1 ⊢; exact ⟨Φ1, env1, g1, o1.later p1⟩
    | false => rw [if_neg Bool.false_ne_true] at o1 ⊢; exact o1 Φ1 H1 g1 p1⟩
theorem dw_or {a b : Expr} {r : List Expr} {pos : Pos} {f g : SemB} (h : DT T N sc cold top k a f) (h' : DW T N sc cold top k (.BoolOp .Or (b :: r) pos) g) : DW T N sc cold top k (.BoolOp .Or (a :: b :: r) pos) (semOr f g) := fun X W F =>
  PWimp (pw_or (h X W F) (h' X W F)) fun σ H Q ⟨Φ, env, g0, o⟩ => ⟨Φ, env, g0, (OutB.bindB o).mono fun b H1 ⟨Φ1, env1, g1, p1, o1⟩ => by
    cases b with
    | true => rw [if_pos rfl] at o1 ⊢; exact o1 Φ1 H1 g1 p1
    | false => rw [if_neg Bool.false_ne_true] at o1 ⊢; exact ⟨Φ1, env1, g1, o1.later p1⟩⟩
theorem de_if {c a b : Expr} {pos : Pos} {fc : SemB} {f g : Sem} (hc : DT T N sc cold top k c fc) (ha : DE T N sc cold top k a f) (hb : DE T N sc cold top k b g) : DE T N sc cold top k (.IfExp c a b pos) (semIf fc f g) := fun X W F =>
  PEimp (pe_ifExp (hc X W F) (ha X W F) (hb X W F)) fun σ H Q ⟨Φ, env, g0, o⟩ => ⟨Φ, env, g0, (OutB.bind o).mono fun b H1 ⟨Φ1, env1, g1, p1, o1⟩ => by
    cases b with
    | true => rw [if_pos rfl] at o1 ⊢; exact ⟨Φ1, env1, g1, o1.later p1⟩
    | false => rw [if_neg Bool.false_ne_true] at o1 ⊢; exact ⟨Φ1, env1, g1, o1.later p1⟩⟩
/-- a test as a value -/
def semBV (f : SemB) : Sem := fun s => (f s).bind fun b s1 => .ok (.val (.bool b)) s1
/-- a value that is a truth, as a test -/
def asB (p : D → D → Option R) (r r' : R) (s : Sg) : Re Bool := match (r.get s).bind fun d => (r'.get s).bind (p d) with
  | some (.val (.bool b)) => .ok b s
  | _ => .bad
def semCmpB (p : D → D → Option R) (f g : Sem) : SemB := fun s => (f s).bind fun r s1 => (g s1).bind fun r' s2 => asB p r r' s2
theorem seq2B {K : PySem.W.Frag} {mg : Str → Option Value} {σ : Sl} {f g : Sem} {G : R → R → Sg → Re Bool} {Q : Bool → Hp → Prop} {H : Hp} (lf : Lasts f) (lg : Lasts g) (h : tB K mg W (fun s => (f s).bind fun r s1 => (g s1).bind fun r' s2 => G r r' s2) σ H Q) :
    tR K mg W f σ H fun x H1 => tR K mg W g σ H1 fun y H2 => ∃ Φ0 H0 A0 r r' env Φ, r'.last = true ∧ Good K Φ H2 env σ ∧ RR K Φ H2 env σ x r ∧ RR K Φ H2 env σ y r' ∧ Pres Φ0 H0 A0 Φ H2 (Ow env σ) ∧ OutB K mg W σ Φ0 H0 A0 (G r r' env) Q := by
  obtain ⟨Φ, env, g0, o⟩ := h
  refine ⟨Φ, env, g0, (Out.bindB o).mono fun v H1 ⟨r, env1, e1, Φ1, g1, r1, p1, o1⟩ => ⟨Φ1, env1, g1, ?_⟩⟩
  have p1' := p1.plain fun b => RO.not (lf _ _ _ e1) b
  refine (Out.bindB (o1.later p1')).mono fun u H2 ⟨r', env2, e2, Φ2, g2, r2, p2, o2⟩ => ?_
  have p2' := p2.plain fun b => RO.not (lg _ _ _ e2) b
  exact ⟨_, _, _, r, r', env2, Φ2, lg _ _ _ e2, g2, r1.later (lf _ _ _ e1) p2.ff, r2, p2', o2⟩
theorem asB_of {K : PySem.W.Frag} {mg : Str → Option Value} {σ : Sl} {Φ0 H0 Φ H : Hp} {A0 : Addr → Prop} {env : Sg} {p : D → D → Option R} {r r' : R} {x y : V} {Q : Bool → Hp → Prop} (g : Good K Φ H env σ) (hx : RR K Φ H env σ x r) (hy : RR K Φ H env σ y r') (pr : Pres Φ0 H0 A0 Φ H (Ow env σ)) (o : OutB K mg W σ Φ0 H0 A0 (asB p r r' env) Q) :
    rP2 K p x y H (fun x H' => ∃ k, x = .bl k ∧ Q k H') := by
  unfold asB at o
  cases e1 : r.get env with
  | none => rw [e1] at o; exact o.elim
  | some d =>
    cases e2 : r'.get env with
    | none => rw [e1, e2] at o; exact o.elim
    | some e =>
      cases e3 : p d e with
      | none => simp only [e1, e2, Option.bind, e3] at o; exact o.elim
      | some q =>
        simp only [e1, e2, Option.bind, e3] at o
        cases q with
        | val z =>
          cases z with
          | bool b =>
            refine ⟨Φ, d, e, _, g.le, hx.content g e1, hy.content g e2, e3, fun v Φ' H' l l' k f rn => ?_⟩
            obtain ⟨g', p'⟩ := g.grow l l' k f
            cases (show Rp K Φ' v (.bool b) from rn)
            exact ⟨b, rfl, o Φ' H' g' (pr.trans p')⟩
          | _ => exact o.elim
        | own z => exact o.elim
        | slot z => exact o.elim
theorem dt_cmp {op : CmpOp} {a b : Expr} {pos : Pos} {p : D → D → Option R} {f g : Sem} (ho : ∀ X W, Fx T N sc cold top k X W → OpR X (compareOp op) (rP2 T.K p)) (ha : DE T N sc cold top k a f) (hb : DE T N sc cold top k b g) (lf : Lasts f) (lg : Lasts g) (hm : behindInMarks op b = false) :
    DT T N sc cold top k (.Compare a [op] [b] pos) (semCmpB p f g) := fun X W F =>
  PTimp (pt_cmpR (ho X W F) (ha X W F) (hb X W F) hm) fun σ H Q h => by
    obtain ⟨Φ, env, g0, o⟩ := seq2B lf lg h
    exact ⟨Φ, env, g0, o.mono fun x H1 ⟨Φ1, env1, g1, o1⟩ => ⟨Φ1, env1, g1, o1.mono fun y H2 ⟨_, _, _, r, r', env2, Φ2, _, g2, rx, ry, p2, o2⟩ => asB_of g2 rx ry p2 o2⟩⟩
end
end EV
end
section
set_option Elab.async false
set_option linter.all false
set_option maxRecDepth 100000
set_option autoImplicit false
/-! EV5: chains, subscripts, slices, truth, methods -/
namespace EV
open PySem PySem.Spec PyProof.Rows L2

section
variable {T : Tx} {N : List Str} {sc : Scope} {cold top : Bool} {k : Nat} {X : Cx} {W : WX}
/-! ### a < b < c -/
def semChain (p q : D → D → Option R) (f g h : Sem) : SemB := fun s => (f s).bind fun r s1 => (g s1).bind fun r' s2 => (asB p r r' s2).bind fun b s3 => if b = true then (h s3).bind fun r'' s4 => asB q r' r'' s4 else .ok false s3
theorem asB_split {K : PySem.W.Frag} {mg : Str → Option Value} {σ : Sl} {Φ0 H0 : Hp} {A0 : Addr → Prop} {env : Sg} {p : D → D → Option R} {r r' : R} {g : Bool → Sg → Re Bool} {Q : Bool → Hp → Prop} (o : OutB K mg W σ Φ0 H0 A0 ((asB p r r' env).bind g) Q) :
    ∃ b, asB p r r' env = .ok b env ∧ OutB K mg W σ Φ0 H0 A0 (g b env) Q := by
  unfold asB at o ⊢
  cases e : (r.get env).bind fun d => (r'.get env).bind (p d) with
  | none => simp only [e] at o; exact o.elim
  | some z =>
    simp only [e] at o ⊢
    cases z with
    | val d => cases d with
      | bool b => exact ⟨b, rfl, o⟩
      | _ => exact o.elim
    | _ => exact o.elim
theorem asB_ok {K : PySem.W.Frag} {σ : Sl} {Φ H : Hp} {env : Sg} {p : D → D → Option R} {r r' : R} {x y : V} {b : Bool} {Q : Bool → Hp → Prop} (g : Good K Φ H env σ) (hx : RR K Φ H env σ x r) (hy : RR K Φ H env σ y r') (e : asB p r r' env = .ok b env)
    (h : ∀ Φ' H', Good K Φ' H' env σ → Pres Φ H (Ow env σ) Φ' H' (Ow env σ) → Q b H') : rP2 K p x y H (fun x H' => ∃ k, x = .bl k ∧ Q k H') :=
  asB_of (mg := fun _ => none) (W := fun _ _ _ _ => False) g hx hy (Pres.refl _ _ _) (by rw [e]; exact fun Φ' H' g' p' => h Φ' H' g' p')
theorem chain_imp {p q : D → D → Option R} {f g h : Sem} (lf : Lasts f) (lg : Lasts g) (lh : Lasts h) {K : PySem.W.Frag} {mg : Str → Option Value} {σ : Sl} {H : Hp} {Q : Bool → Hp → Prop} {Q' : VK} (hh : tB K mg W (semChain p q f g h) σ H Q) (hQ : ∀ b H', Q b H' → Q' (.bl b) H') :
    tChain (rP2 K p) (rP2 K q) (tR K mg W f) (tR K mg W g) (tR K mg W h) σ H Q' := by
  obtain ⟨Φ, env, g0, o⟩ := seq2B (G := fun r r' s2 => (asB p r r' s2).bind fun b s3 => if b = true then (h s3).bind fun r'' s4 => asB q r' r'' s4 else .ok false s3) lf lg hh
  refine ⟨Φ, env, g0, o.mono fun x H1 ⟨Φ1, env1, g1, o1⟩ => ⟨Φ1, env1, g1, o1.mono fun y H2 ⟨_, _, _, r, r', env2, Φ2, hl, g2, rx, ry, p2, o2⟩ => ?_⟩⟩
  obtain ⟨b, e, o3⟩ := asB_split o2
  have big := asB_ok (Q := fun b H3 => if b = true then tR K mg W h σ H3 fun w' H4 => rP2 K q y w' H4 Q' else Q' (.bl false) H3) g2 rx ry e fun Φ3 H3 g3 p3 => by
    cases b with
    | true =>
      rw [if_pos rfl] at o3 ⊢
      refine ⟨Φ3, env2, g3, (Out.bindB (o3.later (p2.trans p3))).mono fun w' H4 ⟨r'', env4, e4, Φ4, g4, r4, p4, o4⟩ => ?_⟩
      have p4' := p4.plain fun b => RO.not (lh _ _ _ e4) b
      obtain ⟨Φ5, d, e', rr, le, c1, c2, pe, nq⟩ := asB_of g4 (RR.later ry hl (p3.ff.trans p4'.ff)) r4 p4' o4
      exact ⟨Φ5, d, e', rr, le, c1, c2, pe, fun v Φ' H' l1 l2 l3 l4 rn => by
        obtain ⟨k, e1, hq⟩ := nq v Φ' H' l1 l2 l3 l4 rn
        subst e1; exact hQ _ _ hq⟩
    | false =>
      rw [if_neg Bool.false_ne_true] at o3 ⊢
      exact hQ _ _ (o3 Φ3 H3 g3 (p2.trans p3))
  obtain ⟨Φ5, d, e', rr, le, c1, c2, pe, nq⟩ := big
  refine ⟨Φ5, d, e', rr, le, c1, c2, pe, fun v Φ' H' l1 l2 l3 l4 rn => ?_⟩
  obtain ⟨k, e1, hq⟩ := nq v Φ' H' l1 l2 l3 l4 rn
  exact ⟨k, e1, hq⟩
theorem dt_chain {op op' : CmpOp} {a b c : Expr} {pos : Pos} {p q : D → D → Option R} {f g h : Sem} (ho : ∀ X W, Fx T N sc cold top k X W → OpR X (compareOp op) (rP2 T.K p)) (ho' : ∀ X W, Fx T N sc cold top k X W → OpR X (compareOp op') (rP2 T.K q))
    (ha : DE T N sc cold top k a f) (hb : DE T N sc cold top k b g) (hc : DE T N sc cold top k c h) (lf : Lasts f) (lg : Lasts g) (lh : Lasts h) (hm : lastMarks [op, op'] [b, c] = false) :
    DT T N sc cold top k (.Compare a [op, op'] [b, c] pos) (semChain p q f g h) := fun X W F =>
  PTimp (pt_chain (ho X W F) (ho' X W F) (ha X W F) (hb X W F) (hc X W F) hm) fun σ H Q hh => chain_imp lf lg lh hh fun b H' q => ⟨b, rfl, q⟩
theorem tR_bv {K : PySem.W.Frag} {mg : Str → Option Value} {σ : Sl} {H : Hp} {Q : VK} {f : SemB} (h : tR K mg W (semBV f) σ H Q) : tB K mg W f σ H fun b H' => Q (.bl b) H' := by
  obtain ⟨Φ, env, g, o⟩ := h
  exact ⟨Φ, env, g, (OutB.bind o).mono fun b H' ⟨Φ', env', g', p', o'⟩ => o' _ _ _ g' (.bl b) (p'.some fun b h => h.elim id False.elim)⟩
theorem de_chain {op op' : CmpOp} {a b c : Expr} {pos : Pos} {p q : D → D → Option R} {f g h : Sem} (ho : ∀ X W, Fx T N sc cold top k X W → OpR X (compareOp op) (rP2 T.K p)) (ho' : ∀ X W, Fx T N sc cold top k X W → OpR X (compareOp op') (rP2 T.K q))
    (ha : DE T N sc cold top k a f) (hb : DE T N sc cold top k b g) (hc : DE T N sc cold top k c h) (lf : Lasts f) (lg : Lasts g) (lh : Lasts h) (hm : lastMarks [op, op'] [b, c] = false) :
    DE T N sc cold top k (.Compare a [op, op'] [b, c] pos) (semBV (semChain p q f g h)) := fun X W F =>
  PEimp (pe_chain (ho X W F) (ho' X W F) (ha X W F) (hb X W F) (hc X W F) hm) fun σ H Q hh => chain_imp lf lg lh (tR_bv hh) fun b H' q => q

/-! ### and, or, not as values of truths -/
def boolOf (r : R) (s : Sg) : Option Bool := match r.get s with
  | some (.bool b) => some b
  | _ => none
def semAndV (f g : Sem) : Sem := fun s => (f s).bind fun r s1 => match boolOf r s1 with
  | some b => if b = true then g s1 else .ok (.val (.bool false)) s1
  | none => .bad
def semOrV (f g : Sem) : Sem := fun s => (f s).bind fun r s1 => match boolOf r s1 with
  | some b => if b = true then .ok (.val (.bool true)) s1 else g s1
  | none => .bad
def semNotV (f : Sem) : Sem := fun s => (f s).bind fun r s1 => match boolOf r s1 with
  | some b => .ok (.val (.bool (!b))) s1
  | none => .bad
theorem RR.boolOf {K : PySem.W.Frag} {σ : Sl} {Φ H : Hp} {env : Sg} {r : R} {v : V} {b : Bool} (g : Good K Φ H env σ) (h : RR K Φ H env σ v r) (e : EV.boolOf r env = some b) : v = .bl b := by
  unfold EV.boolOf at e
  cases q : r.get env with
  | none => rw [q] at e; cases e
  | some d =>
    rw [q] at e
    cases d <;> try cases e
    exact (h.content g q).bool
theorem de_and {a b : Expr} {r : List Expr} {pos : Pos} {f g : Sem} (h : DE T N sc cold top k a f) (lf : Lasts f) (h' : DE T N sc cold top k (.BoolOp .And (b :: r) pos) g) : DE T N sc cold top k (.BoolOp .And (a :: b :: r) pos) (semAndV f g) := fun X W F =>
  PEimp (pe_and (h X W F) (h' X W F)) fun σ H Q ⟨Φ, env, g0, o⟩ => ⟨Φ, env, g0, (Out.bind o).mono fun v H1 ⟨r, env1, e1, Φ1, g1, r1, p1, o1⟩ => by
    have p1' := p1.plain fun b => RO.not (lf _ _ _ e1) b
    cases e : boolOf r env1 with
    | none => rw [e] at o1; exact o1.elim
    | some c =>
      rw [e] at o1
      refine ⟨c, r1.boolOf g1 e, ?_⟩
      cases c with
      | true => simp only [if_true] at o1; rw [if_pos rfl]; exact ⟨Φ1, env1, g1, o1.later p1'⟩
      | false => rw [if_neg Bool.false_ne_true] at *; exact o1 _ Φ1 H1 g1 (.bl false) (p1'.some fun b h => h.elim id False.elim)⟩
theorem de_or {a b : Expr} {r : List Expr} {pos : Pos} {f g : Sem} (h : DE T N sc cold top k a f) (lf : Lasts f) (h' : DE T N sc cold top k (.BoolOp .Or (b :: r) pos) g) : DE T N sc cold top k (.BoolOp .Or (a :: b :: r) pos) (semOrV f g) := fun X W F =>
  PEimp (pe_or (h X W F) (h' X W F)) fun σ H Q ⟨Φ, env, g0, o⟩ => ⟨Φ, env, g0, (Out.bind o).mono fun v H1 ⟨r, env1, e1, Φ1, g1, r1, p1, o1⟩ => by
    have p1' := p1.plain fun b => RO.not (lf _ _ _ e1) b
    cases e : boolOf r env1 with
    | none => rw [e] at o1; exact o1.elim
    | some c =>
      rw [e] at o1
      refine ⟨c, r1.boolOf g1 e, ?_⟩
      cases c with
      | true => simp only [if_true] at o1; rw [if_pos rfl]; exact o1 _ Φ1 H1 g1 (.bl true) (p1'.some fun b h => h.elim id False.elim)
      | false => rw [if_neg Bool.false_ne_true] at *; exact ⟨Φ1, env1, g1, o1.later p1'⟩⟩
theorem de_one {op : PySem.BoolOp} {a : Expr} {pos : Pos} {f : Sem} (h : DE T N sc cold top k a f) : DE T N sc cold top k (.BoolOp op [a] pos) f := fun X W F => pe_one (h X W F)
theorem de_not {a : Expr} {pos : Pos} {f : Sem} (h : DE T N sc cold top k a f) (lf : Lasts f) : DE T N sc cold top k (.UnaryOp .Not a pos) (semNotV f) := fun X W F =>
  PEimp (pe_not (h X W F)) fun σ H Q ⟨Φ, env, g0, o⟩ => ⟨Φ, env, g0, (Out.bind o).mono fun v H1 ⟨r, env1, e1, Φ1, g1, r1, p1, o1⟩ => by
    have p1' := p1.plain fun b => RO.not (lf _ _ _ e1) b
    cases e : boolOf r env1 with
    | none => rw [e] at o1; exact o1.elim
    | some c =>
      rw [e] at o1
      exact ⟨c, r1.boolOf g1 e, o1 _ Φ1 H1 g1 (.bl _) (p1'.some fun b h => h.elim id False.elim)⟩⟩

/-! ### truth -/
def truth : D → Option Bool
  | .none => some false
  | .bool b => some b
  | .int i => some (i != 0)
  | .str z => if z.length ≤ sizeLine then some ((z.length : Int) != 0) else none
  | .list ds => some (!ds.isEmpty)
  | .tuple ds => some (!ds.isEmpty)
  | .dict kvs => some (!kvs.isEmpty)
def semTru (f : Sem) : SemB := fun s => (f s).bind fun r s1 => match (r.get s1).bind truth with
  | some b => .ok b s1
  | none => .bad
/-! ### subscripts -/
def noSlice : Expr → Bool
  | .Slice .. => false
  | _ => true
theorem plain_ix {b : Expr} (h : noSlice b = true) : PlainIx b := fun o i => by
  cases b <;> first | rfl | cases h
def eqk (a b : D) : Bool := PyData.eqv a b
def dget : List (D × D) → D → Option D
  | [], _ => none
  | (k, v) :: r, x => if eqk k x = true then some v else dget r x
def pIx : D → D → Option R
  | .list ds, .int i => (atI ds i).map .val
  | .tuple ds, .int i => (atI ds i).map .val
  | .str z, .int i => if z.length ≤ sizeLine then (atI z.cps.toList i).map fun c => .val (.str ⟨#[c]⟩) else none
  | .dict kvs, x => (dget kvs x).map .val
  | _, _ => none
theorem de_ix {a b : Expr} {pos : Pos} {p : D → D → Option R} {f g : Sem} (ho : ∀ X W, Fx T N sc cold top k X W → IxR X (rP2 T.K p)) (ha : DE T N sc cold top k a f) (hb : DE T N sc cold top k b g) (lf : Lasts f) (lg : Lasts g) (hs : noSlice b = true) :
    DE T N sc cold top k (.Subscript a b pos) (semBin p f g) := fun X W F =>
  PEimp (pe_ix (ho X W F) (ha X W F) (hb X W F) (plain_ix hs)) fun σ H Q h => by
    obtain ⟨Φ, env, g0, o⟩ := seq2 lf lg h
    exact ⟨Φ, env, g0, o.mono fun x H1 ⟨Φ1, env1, g1, o1⟩ => ⟨Φ1, env1, g1, o1.mono fun y H2 ⟨_, _, _, r, r', env2, Φ2, g2, rx, ry, p2, o2⟩ => app2_of g2 rx ry p2 o2⟩⟩

/-! ### methods of built-in types -/
def kindT : D → String
  | .list _ => "list"
  | .dict _ => "dict"
  | .str _ => "str"
  | _ => ""
def isKind (r : R) (s : Sg) (t : String) : Bool := match r.get s with
  | some d => kindT d == t
  | none => false
def semMethT (t : String) (p : D → List D → Option R) (f : Sem) (fs : List Arg) : Sem := fun s => (f s).bind fun r s1 => if isKind r s1 t = true then (semArgs fs s1).bind fun rs s2 => appm p r rs s2 else .bad
theorem tyV_of {K : PySem.W.Frag} {Φ H : Hp} {v : V} {d : D} (h : CR K Φ H v d) (l : Le Φ H) {t : String} (e : kindT d = t) (ht : t ≠ "") : tyV K t v H := by
  cases d with
  | list ds => obtain ⟨a, vs, rfl, q, _⟩ := h.list l; exact .inl ⟨e.symm, vs, q⟩
  | dict kvs =>
    obtain ⟨a, rfl, w⟩ := h.dict l
    refine .inr (.inr (.inl ⟨e.symm, ?_⟩))
    rcases w with ⟨ws, q, _⟩ | ⟨ws, q, _⟩
    · exact .inl ⟨ws, q⟩
    · exact .inr ⟨ws, q⟩
  | str z => cases h.str; exact e.symm
  | none => exact absurd e.symm ht
  | bool _ => exact absurd e.symm ht
  | int _ => exact absurd e.symm ht
  | tuple _ => exact absurd e.symm ht
theorem isKind_of {K : PySem.W.Frag} {σ : Sl} {Φ H : Hp} {env : Sg} {r : R} {v : V} {t : String} (g : Good K Φ H env σ) (h : RR K Φ H env σ v r) (e : isKind r env t = true) (ht : t ≠ "") : tyV K t v H := by
  unfold isKind at e
  cases q : r.get env with
  | none => rw [q] at e; cases e
  | some d => rw [q] at e; exact tyV_of (h.content g q) g.le (by simpa using e) ht
theorem keyEach_nil {env : PySem.Env} {pos : Pos} : (backToKw pos (keywordEach [] env)).all (fun x => x.1.isSome) = true := rfl
theorem starEach_all {env : PySem.Env} {pos : Pos} : ∀ {es : List Expr}, es.all noStar = true → (backTo pos (starEach es env)).all (fun x => !x.1) = true
  | [], _ => rfl
  | e :: es, h => by
    simp only [List.all_cons, Bool.and_eq_true] at h
    rw [starEach_one h.1]
    show (!false && (backTo pos (starEach es env)).all (fun x => !x.1)) = true
    rw [starEach_all h.2]; rfl
/-- a base that is not super() -/
def noSuper : Expr → Bool
  | .Call .. => false
  | _ => true
theorem attrBase {o : Expr} {a : Str} {env : PySem.Env} {whole : PySem.Sem Value} (h : noSuper o = true) : attributeBase o a env whole = whole := by
  cases o <;> first | rfl | cases h
theorem meth_args {o e : Expr} {es : List Expr} {name : Str} {apos cpos : Pos} {ty id : String} {p : D → List D → Option R} {f : Sem} {fs : List Arg} (pa : PlainAttrs ty) (slot : Slot ty name id) (hty : typeOf (.builtin id) = pure (.type "method_descriptor")) (hm : ∀ X W, Fx T N sc cold top k X W → MtR X id (rPm T.K p))
    (ho : DE T N sc cold top k o f) (lf : Lasts f) (ha : DA T N sc cold top k (e :: es) fs) (hb : noSuper o = true) (hline : (apos.endLine == cpos.line) = true) (hs : (e :: es).all noStar = true) (hl : (e :: es).length < 30) (ht : ty ≠ "") :
    DE T N sc cold top k (.Call (.Attribute o name apos) (e :: es) [] cpos) (semMethT ty p f fs) := fun X W F => by
  have h1 : noStar e = true ∧ es.all noStar = true := by simpa [Bool.and_eq_true] using hs
  refine PEimp (pe_bm pa slot hty (hm X W F) (ho X W F) (ha X W F) (attrBase hb) ?_ hline (starEach_one h1.1) (starEach_plain h1.2)) fun σ H Q ⟨Φ, env, g0, o⟩ => ⟨Φ, env, g0, (Out.bind o).mono fun v H1 ⟨r, env1, e1, Φ1, g1, r1, p1, o1⟩ => ?_⟩
  · rw [starEach_all hs, keyEach_nil]
    simp only [Bool.true_and, List.length_nil, List.isEmpty_nil, if_true, Nat.add_zero]
    exact decide_eq_true hl
  · have hl := lf _ _ _ e1
    have p1' := p1.plain fun b => RO.not hl b
    split at o1
    · rename_i hk
      rw [F.eK]
      refine ⟨isKind_of g1 r1 hk ht, Φ1, env1, g1, (OutL.bind (o1.later p1')).mono fun vs H2 ⟨rs, env2, Φ2, g2, r2, p2, o2⟩ => ?_⟩
      exact appm_of g2 (r1.later hl p2.ff) r2 p2 o2
    · exact o1.elim
theorem meth_none {o : Expr} {name : Str} {apos cpos : Pos} {ty id : String} {p : D → List D → Option R} {f : Sem} (pa : PlainAttrs ty) (slot : Slot ty name id) (hty : typeOf (.builtin id) = pure (.type "method_descriptor")) (hm : ∀ X W, Fx T N sc cold top k X W → MtR X id (rPm T.K p))
    (ho : DE T N sc cold top k o f) (lf : Lasts f) (hb : noSuper o = true) (hline : (apos.endLine == cpos.line) = true) (ht : ty ≠ "") :
    DE T N sc cold top k (.Call (.Attribute o name apos) [] [] cpos) (semMethT ty p f []) := fun X W F => by
  refine PEimp (pe_bm0 pa slot hty (hm X W F) (ho X W F) (attrBase hb) hline) fun σ H Q ⟨Φ, env, g0, o⟩ => ⟨Φ, env, g0, (Out.bind o).mono fun v H1 ⟨r, env1, e1, Φ1, g1, r1, p1, o1⟩ => ?_⟩
  have hl := lf _ _ _ e1
  have p1' := p1.plain fun b => RO.not hl b
  split at o1
  · rename_i hk
    rw [F.eK]
    exact ⟨isKind_of g1 r1 hk ht, appm_of (rs := []) g1 r1 .nil p1' o1⟩
  · exact o1.elim
/-! ### slices of lists, tuples, texts -/
def intOf (r : R) (s : Sg) : Option Int := match r.get s with
  | some (.int b) => some b
  | _ => none
def cutD (ds : List D) (lo hi : Option Int) : List D := (ds.drop (HT.sIx ds.length 0 lo)).take (HT.sIx ds.length ds.length hi - HT.sIx ds.length 0 lo)
def cutS (z : Str) (lo hi : Option Int) : Str := ⟨((z.cps.toList.drop (HT.sIx z.length 0 lo)).take (HT.sIx z.length z.length hi - HT.sIx z.length 0 lo)).toArray⟩
end
end EV
end
section
set_option Elab.async false
set_option linter.all false
set_option maxRecDepth 100000
set_option autoImplicit false
/-! EV6: slices; targets; what is walked; list comprehensions -/
namespace EV
open PySem PySem.Spec PyProof.Rows L2

section
variable {T : Tx} {N : List Str} {sc : Scope} {cold top : Bool} {k : Nat} {X : Cx} {W : WX}
/-! ### slices -/
theorem RR.intOf {K : PySem.W.Frag} {σ : Sl} {Φ H : Hp} {env : Sg} {r : R} {v : V} {b : Int} (g : Good K Φ H env σ) (h : RR K Φ H env σ v r) (e : EV.intOf r env = some b) : v = .int b := by
  unfold EV.intOf at e
  cases q : r.get env with
  | none => rw [q] at e; cases e
  | some d =>
    rw [q] at e
    cases d <;> try cases e
    exact (h.content g q).int
/-- a bound of a slice -/
def semPart : Option Sem → Sg → Re (Option Int)
  | none, s => .ok none s
  | some f, s => (f s).bind fun r s1 => match intOf r s1 with
    | some i => .ok (some i) s1
    | none => .bad
def slS : D → Option Int → Option Int → Option R
  | .list ds, lo, hi => some (.own (.lst (cutD ds lo hi)))
  | .tuple ds, lo, hi => some (.val (.tuple (cutD ds lo hi)))
  | .str z, lo, hi => if z.length ≤ sizeLine then some (.val (.str (L2.cutS z lo hi))) else none
  | _, _, _ => none
def semSlice (f : Sem) (lo hi : Option Sem) : Sem := fun s => (f s).bind fun r s1 => (semPart lo s1).bind fun l s2 => (semPart hi s2).bind fun u s3 => app1 (fun d => slS d l u) r s3
theorem cutD_length (ds : List D) (lo hi : Option Int) : (cutD ds lo hi).length ≤ ds.length := by
  unfold cutD; rw [List.length_take, List.length_drop]; omega
theorem RpA.cut {K : PySem.W.Frag} {Φ : Hp} {vs : List V} {ds : List D} (h : RpA K Φ vs ds) (lo hi : Option Int) : RpA K Φ (cutV vs lo hi) (cutD ds lo hi) := by
  unfold cutV cutD; rw [h.length]; exact (h.drop _).take _
def OutO (K : PySem.W.Frag) (mg : Str → Option Value) (W : WX) (σ : Sl) (Φ0 H0 : Hp) (A0 : Addr → Prop) (res : Re (Option Int)) (Q : Option Int → Hp → Prop) : Prop :=
  match res with
  | .ok b env' => ∀ Φ' H', Good K Φ' H' env' σ → Pres Φ0 H0 A0 Φ' H' (Ow env' σ) → Q b H'
  | .ex x env' => ∀ Φ' H' cls d, Good K Φ' H' env' σ → XcR K mg Φ' x cls d → Pres Φ0 H0 A0 Φ' H' (Ow env' σ) → W cls d σ H'
  | .bad => False
def DO (T : Tx) (N : List Str) (sc : Scope) (cold top : Bool) (k : Nat) (e : Option Expr) (f : Option Sem) : Prop := match e, f with
  | none, none => True
  | some e, some f => DE T N sc cold top k e f ∧ Lasts f
  | _, _ => False
theorem po_of {e : Option Expr} {f : Option Sem} (h : DO T N sc cold top k e f) (F : Fx T N sc cold top k X W) :
    ∃ t, PO X e t ∧ ∀ (σ : Sl) (H : Hp) (Q : Option Int → Hp → Prop) (Φ0 H0 : Hp) (A0 : Addr → Prop) (Φ : Hp) (env : Sg), Good T.K Φ H env σ → Pres Φ0 H0 A0 Φ H (Ow env σ) → OutO T.K T.mg W σ Φ0 H0 A0 (semPart f env) Q → t σ H Q := by
  cases e with
  | none =>
    cases f with
    | none => exact ⟨_, po_none, fun σ H Q Φ0 H0 A0 Φ env g p o => o Φ H g p⟩
    | some f => exact h.elim
  | some e =>
    cases f with
    | none => exact h.elim
    | some f =>
      refine ⟨_, po_some (h.1 X W F), fun σ H Q Φ0 H0 A0 Φ env g p o => ⟨Φ, env, g, ?_⟩⟩
      have o : OutO T.K T.mg W σ Φ0 H0 A0 ((f env).bind fun r s1 => match intOf r s1 with | some i => .ok (some i) s1 | none => .bad) Q := o
      cases e1 : f env with
      | ok r env1 =>
        rw [e1] at o
        intro v Φ1 H1 g1 r1 p1
        have p1' := p1.plain fun b => RO.not (h.2 _ _ _ e1) b
        have o : OutO T.K T.mg W σ Φ0 H0 A0 (match intOf r env1 with | some i => .ok (some i) env1 | none => .bad) Q := o
        cases e2 : intOf r env1 with
        | none => rw [e2] at o; exact o.elim
        | some i => rw [e2] at o; exact ⟨i, r1.intOf g1 e2, o Φ1 H1 g1 (p.trans p1')⟩
      | ex x env1 => rw [e1] at o; exact fun Φ' H' cls d g' xr q => o Φ' H' cls d g' xr (p.trans q)
      | bad => rw [e1] at o; exact o.elim
theorem OutO.bind {K : PySem.W.Frag} {mg : Str → Option Value} {σ : Sl} {Φ0 H0 : Hp} {A0 : Addr → Prop} {res : Re (Option Int)} {g : Option Int → Sg → Re R} {Q : VK} (h : Out K mg W σ Φ0 H0 A0 (res.bind g) Q) :
    OutO K mg W σ Φ0 H0 A0 res (fun b H' => ∃ Φ' env', Good K Φ' H' env' σ ∧ Pres Φ0 H0 A0 Φ' H' (Ow env' σ) ∧ Out K mg W σ Φ0 H0 A0 (g b env') Q) := by
  cases res with
  | ok r s => exact fun Φ' H' g' q => ⟨Φ', s, g', q, h⟩
  | ex x s => exact h
  | bad => exact h
theorem sl_all : SlR X (fun x lo hi H Q => rP1 X.K (fun d => slS d lo hi) x H Q) := by
  intro pins s σ H x v vl vu lo hi sl Q I rx hs pl pu h
  obtain ⟨Φ, d, r, le, c, e, nq⟩ := h
  cases d with
  | list ds =>
    cases e
    obtain ⟨a, vs, rfl, sq, ra, z⟩ := c.list le
    exact sl_list pins s σ H _ v vl vu lo hi sl Q I rx hs pl pu ⟨a, vs, rfl, sq, fun p hp => nq.lst le hp (ra.cut lo hi) (Nat.le_trans (cutD_length _ _ _) z)⟩
  | tuple ds =>
    cases e
    obtain ⟨a, vs, rfl, sq, ra, z⟩ := c.tuple le
    refine sl_tupA pins s σ H _ v vl vu lo hi sl Q I rx hs pl pu ⟨a, vs, rfl, sq, fun ⟨h1, h2⟩ => ?_, fun _ p hp => nq.tup le hp (ra.cut lo hi) (Nat.le_trans (cutD_length _ _ _) z)⟩
    rw [ra.length] at h1 h2
    have e : cutD ds lo hi = ds := by unfold cutD; rw [h1, h2]; simp
    rw [e] at nq
    generalize e2 : PyData.tuple ds = d at c
    cases c with
    | fz r => subst e2; exact nq.val le r
    | own w => rename_i o; cases o <;> cases e2
  | str z =>
    simp only [slS] at e
    split at e
    · rename_i hz
      cases e
      cases c.str
      exact sl_str pins s σ H _ v vl vu lo hi sl Q I rx hs pl pu ⟨z, rfl, hz, nq.val le (.str _)⟩
    · cases e
  | none => cases e
  | bool _ => cases e
  | int _ => cases e
  | dict _ => cases e
theorem de_slice {e : Expr} {lo hi : Option Expr} {p2 pos : Pos} {f : Sem} {l u : Option Sem} (he : DE T N sc cold top k e f) (lf : Lasts f) (hl : DO T N sc cold top k lo l) (hu : DO T N sc cold top k hi u) :
    DE T N sc cold top k (.Subscript e (.Slice lo hi none p2) pos) (semSlice f l u) := fun X W F => by
  obtain ⟨t1, ht1, i1⟩ := po_of hl F
  obtain ⟨t2, ht2, i2⟩ := po_of hu F
  refine PEimp (pe_slice sl_all (he X W F) ht1 ht2) fun σ H Q ⟨Φ, env, g0, o⟩ => ⟨Φ, env, g0, (Out.bind o).mono fun v H1 ⟨r, env1, e1, Φ1, g1, r1, p1, o1⟩ => ?_⟩
  have hl := lf _ _ _ e1
  have p1' := p1.plain fun b => RO.not hl b
  refine i1 _ _ _ Φ1 H1 (Ow env1 σ) Φ1 env1 g1 (Pres.refl _ _ _) ?_
  have o2 := OutO.bind (o1.later p1')
  cases e2 : semPart l env1 with
  | ok a s =>
    rw [e2] at o2
    refine fun Φ2 H2 g2 p2 => ?_
    obtain ⟨Φ2', env2, g2', p2', o3⟩ := o2 Φ2 H2 g2 p2
    refine i2 _ _ _ Φ2' H2 (Ow env2 σ) Φ2' env2 g2' (Pres.refl _ _ _) ?_
    have o4 := OutO.bind (o3.later p2')
    cases e3 : semPart u env2 with
    | ok b s3 =>
      rw [e3] at o4
      refine fun Φ3 H3 g3 p3 => ?_
      obtain ⟨Φ3', env3, g3', p3', o5⟩ := o4 Φ3 H3 g3 p3
      rw [F.eK]
      exact app1_of g3' (r1.later hl (p2'.ff.trans p3'.ff)) p3' o5
    | ex x s3 => rw [e3] at o4; exact o4
    | bad => rw [e3] at o4; exact o4
  | ex x s => rw [e2] at o2; exact o2
  | bad => rw [e2] at o2; exact o2

/-! ### targets -/
mutual
inductive Tg where
  | one (i : Nat) | tup (l : Tgs)
inductive Tgs where
  | nil | cons (t : Tg) (l : Tgs)
end
def Tgs.len : Tgs → Nat
  | .nil => 0
  | .cons _ l => l.len + 1
mutual
def Tg.slots : Tg → List Nat
  | .one i => [i]
  | .tup l => l.slots
def Tgs.slots : Tgs → List Nat
  | .nil => []
  | .cons t l => t.slots ++ l.slots
end
mutual
def Tg.bind : Tg → D → Sg → Option Sg
  | .one i, d, s => if i < s.length then some (s.set i (.val d)) else none
  | .tup l, d, s => match seqOf d with
    | some ds => if ds.length = l.len then l.bind ds s else none
    | none => none
def Tgs.bind : Tgs → List D → Sg → Option Sg
  | .nil, _, s => some s
  | .cons t l, d :: ds, s => (t.bind d s).bind fun s1 => l.bind ds s1
  | .cons _ _, [], _ => none
end
/-- the slots outside is are the same -/
def Same' (is : List Nat) (σ σ' : Sl) : Prop := σ'.length = σ.length ∧ ∀ i, i ∉ is → σ'[i]? = σ[i]?
theorem Same'.refl (is : List Nat) (σ : Sl) : Same' is σ σ := ⟨rfl, fun _ _ => rfl⟩
theorem Same'.trans {is : List Nat} {σ σ1 σ2 : Sl} (h : Same' is σ σ1) (h' : Same' is σ1 σ2) : Same' is σ σ2 := ⟨h'.1.trans h.1, fun i hi => (h'.2 i hi).trans (h.2 i hi)⟩
theorem Same'.mono {is js : List Nat} {σ σ1 : Sl} (h : Same' is σ σ1) (s : ∀ i ∈ is, i ∈ js) : Same' js σ σ1 := ⟨h.1, fun i hi => h.2 i fun z => hi (s i z)⟩
/-- a value is stored -/
theorem Good.setVal {K : PySem.W.Frag} {Φ H : Hp} {env : Sg} {σ : Sl} {i : Nat} {v : V} {d : D} (g : Good K Φ H env σ) (h : i < env.length) (r : Rp K Φ v d) : Good K Φ H (env.set i (.val d)) (σ.set i (some v)) ∧ Pres Φ H (Ow env σ) Φ H (Ow (env.set i (.val d)) (σ.set i (some v))) := by
  have hσ : i < σ.length := by rw [← g.er.len]; exact h
  refine ⟨⟨g.le, by simpa using g.er.len, fun j e q => ?_, fun j o q => ?_, fun j l o1 o2 a z1 z2 z3 z4 => ?_⟩, Le.refl _, fun _ _ z _ => z, fun a ⟨j, o, z1, z2⟩ => ?_, fun _ z => .inl z⟩
  · by_cases hj : i = j
    · subst hj; rw [get_set_self h] at q; cases q; exact ⟨v, get_set_self hσ, r⟩
    · rw [get_set_ne hj] at q; rw [get_set_ne hj]; exact g.er.vl j e q
  · by_cases hj : i = j
    · subst hj; rw [get_set_self h] at q; cases q
    · rw [get_set_ne hj] at q; rw [get_set_ne hj]; exact g.er.ow j o q
  · by_cases hj : i = j
    · subst hj; rw [get_set_self h] at z1; cases z1
    · by_cases hl : i = l
      · subst hl; rw [get_set_self h] at z2; cases z2
      · rw [get_set_ne hj] at z1 z3; rw [get_set_ne hl] at z2 z4; exact g.er.dj j l o1 o2 a z1 z2 z3 z4
  · by_cases hj : i = j
    · subst hj; rw [get_set_self h] at z1; cases z1
    · rw [get_set_ne hj] at z1 z2; exact .inl ⟨j, o, z1, z2⟩
/-- the reading of a store to a target -/
def tTg (K : PySem.W.Frag) (t : Tg) : TG := fun v σ H Q => ∃ Φ env d env', Good K Φ H env σ ∧ Rp K Φ v d ∧ t.bind d env = some env' ∧ ∀ σ', Good K Φ H env' σ' → Pres Φ H (Ow env σ) Φ H (Ow env' σ') → Same' t.slots σ σ' → Q σ' H
def tTgs (K : PySem.W.Frag) (l : Tgs) : TGs := fun vs σ H Q => ∃ Φ env ds env', Good K Φ H env σ ∧ RpA K Φ vs ds ∧ ds.length = l.len ∧ l.bind ds env = some env' ∧ ∀ σ', Good K Φ H env' σ' → Pres Φ H (Ow env σ) Φ H (Ow env' σ') → Same' l.slots σ σ' → Q σ' H
theorem PGimp {X : Cx} {e : Expr} {t t' : TG} (h : PG X e t) (i : ∀ v σ H Q, t' v σ H Q → t v σ H Q) : PG X e t' := ⟨fun pins s σ H v u Q I r q => h.run pins s σ H v u Q I r (i v σ H Q q)⟩
theorem PGsimp {X : Cx} {e : List Expr} {t t' : TGs} (h : PGs X e t) (i : ∀ v σ H Q, t' v σ H Q → t v σ H Q) : PGs X e t' := ⟨fun pins s σ H v u Q I r q => h.run pins s σ H v u Q I r (i v σ H Q q)⟩
theorem pg_one {i : Nat} {x : Str} {pos : Pos} (F : Fx T N sc cold top k X W) (hN : N[i]? = some x) (hx : Loc sc x) (hf : X.fn x = true ∨ X.env.scope.names.lookup x = some .local) : PG X (.Name x pos) (tTg T.K (.one i)) := by
  refine PGimp (pg_name (X := X) (i := i) (by rw [F.eN]; exact F.nd) (by rw [F.eN]; exact hN) (by rw [F.es]; exact hx) hf) fun v σ H Q ⟨Φ, env, d, env', g, r, e, hq⟩ => ?_
  simp only [Tg.bind] at e
  split at e
  · rename_i h
    cases e
    obtain ⟨g', p'⟩ := g.setVal h r
    exact hq _ g' p' ⟨by simp, fun j hj => get_set_ne fun z => hj (by simp [Tg.slots, z])⟩
  · cases e
theorem pg_seq {es : List Expr} {kk : Nat} {pos : Pos} {l : Tgs} (F : Fx T N sc cold top k X W) (hc : cold = true) (h : PGs X es (tTgs T.K l)) (hn : (assignEach es X.env).length = l.len) (hst : (assignEach es X.env).findIdx? (·.1) = none) : PG X (.Tuple es kk pos) (tTg T.K (.tup l)) := by
  have hcl := (F.cal hc).1
  have h1 := pg_tup (X := X) (k := kk) (pos := pos) hcl h hn hst
  have h2 := pg_lst (X := X) (k := kk) (pos := pos) hcl h hn hst
  refine ⟨fun pins s σ H v u Q I r ⟨Φ, env, d, env', g, rp, e, hq⟩ => ?_⟩
  simp only [Tg.bind] at e
  cases e1 : seqOf d with
  | none => simp only [e1] at e; cases e
  | some ds =>
    simp only [e1] at e
    split at e
    · rename_i hl
      have fin : ∀ vs, RpA T.K Φ vs ds → tTgs T.K l vs σ H Q := fun vs ra => ⟨Φ, env, ds, env', g, ra, hl, e, fun σ' g' p' s' => hq σ' g' p' (by simpa only [Tg.slots] using s')⟩
      cases rp with
      | lst sq ra z => cases e1; exact h2.run pins s σ H _ u Q I r ⟨_, _, rfl, by rw [F.eK]; exact (g.le.ls sq).sq, ra.length.trans hl, fin _ ra⟩
      | tup sq ra z => cases e1; exact h1.run pins s σ H _ u Q I r ⟨_, _, rfl, .inl (.inl (g.le _ _ sq)), ra.length.trans hl, fin _ ra⟩
      | _ => cases e1
    · cases e
theorem pgs_none : PGs X [] (tTgs T.K .nil) := PGsimp pgs_nil fun vs σ H Q ⟨Φ, env, ds, env', g, ra, hl, e, hq⟩ => by
  cases ds with
  | nil => cases ra; cases e; exact ⟨rfl, hq σ g (Pres.refl _ _ _) (Same'.refl _ _)⟩
  | cons d ds => cases hl
theorem pgs_more {e : Expr} {es : List Expr} {t : Tg} {l : Tgs} (h1 : PG X e (tTg T.K t)) (h2 : PGs X es (tTgs T.K l)) (hs : (assignEach (e :: es) X.env).map (·.2) = assign e X.env :: (assignEach es X.env).map (·.2)) : PGs X (e :: es) (tTgs T.K (.cons t l)) :=
  PGsimp (pgs_cons h1 h2 hs) fun vs σ H Q ⟨Φ, env, ds, env', g, ra, hl, e, hq⟩ => by
    cases ds with
    | nil => cases hl
    | cons d ds =>
      cases ra with
      | cons r ra =>
        simp only [Tgs.bind] at e
        cases e1 : t.bind d env with
        | none => rw [e1] at e; cases e
        | some env1 =>
          rw [e1] at e
          refine ⟨_, _, rfl, Φ, env, d, env1, g, r, e1, fun σ1 g1 p1 s1 => ?_⟩
          exact ⟨Φ, env1, ds, env', g1, ra, by simpa [Tgs.len] using hl, e, fun σ2 g2 p2 s2 => hq σ2 g2 (p1.trans p2) ((s1.mono fun i hi => by simp [Tgs.slots, hi]).trans (s2.mono fun i hi => by simp [Tgs.slots, hi]))⟩

/-! ### what is walked -/
/-- J walks the items ds, in every later heap -/
def WalkD (K : PySem.W.Frag) (J : It) (Φ0 H0 : Hp) (ds : List D) : Prop := ds.length ≤ sizeLine ∧ ∀ Φ H, Le Φ0 Φ → Le Φ H → J.stop ds.length H ∧ ∀ i d, ds[i]? = some d → J.go i H ∧ ∀ x H', J.yld i H x H' →
  ∃ Φ', Le Φ Φ' ∧ Le Φ' H' ∧ Le H H' ∧ (∀ a, Φ' a ≠ none → Φ a ≠ none ∨ Nw H a) ∧ Rp K Φ' x d
def OutI (K : PySem.W.Frag) (mg : Str → Option Value) (W : WX) (σ : Sl) (Φ0 H0 : Hp) (A0 : Addr → Prop) (res : Re (List D)) (Q : It → Hp → Prop) : Prop :=
  match res with
  | .ok ds env' => ∀ J Φ' H', Good K Φ' H' env' σ → WalkD K J Φ' H' ds → Pres Φ0 H0 A0 Φ' H' (Ow env' σ) → Q J H'
  | .ex x env' => ∀ Φ' H' cls d, Good K Φ' H' env' σ → XcR K mg Φ' x cls d → Pres Φ0 H0 A0 Φ' H' (Ow env' σ) → W cls d σ H'
  | .bad => False
abbrev SemI := Sg → Re (List D)
def tI (K : PySem.W.Frag) (mg : Str → Option Value) (W : WX) (f : SemI) : TI := fun σ H R => ∃ Φ env, Good K Φ H env σ ∧ OutI K mg W σ Φ H (Ow env σ) (f env) R
def DI (T : Tx) (N : List Str) (sc : Scope) (cold top : Bool) (k : Nat) (tg e : Expr) (f : SemI) : Prop := ∀ X W, Fx T N sc cold top k X W → PI X tg e (tI T.K T.mg W f)
theorem PIimp {X : Cx} {tg e : Expr} {t t' : TI} (h : PI X tg e t) (i : ∀ σ H Q, t' σ H Q → t σ H Q) : PI X tg e t' := ⟨fun pins s σ H R I q => h.run pins s σ H R I (i σ H R q)⟩
section
variable {K : PySem.W.Frag} {mg : Str → Option Value} {σ : Sl} {Φ0 H0 Φ H : Hp} {A0 : Addr → Prop} {env : Sg}
theorem OutI.later {Φ1 H1 : Hp} {A1 : Addr → Prop} {res : Re (List D)} {Q : It → Hp → Prop} (p : Pres Φ0 H0 A0 Φ1 H1 A1) (h : OutI K mg W σ Φ0 H0 A0 res Q) : OutI K mg W σ Φ1 H1 A1 res Q := by
  cases res with
  | ok r s => exact fun v Φ' H' g r' q => h v Φ' H' g r' (p.trans q)
  | ex x s => exact fun Φ' H' cls d g r' q => h Φ' H' cls d g r' (p.trans q)
  | bad => exact h
theorem Out.bindI {res : Re R} {g : R → Sg → Re (List D)} {Q : It → Hp → Prop} (h : OutI K mg W σ Φ0 H0 A0 (res.bind g) Q) :
    Out K mg W σ Φ0 H0 A0 res (fun v H' => ∃ r env', res = .ok r env' ∧ Mid K σ Φ0 H0 A0 r env' v H' fun _ => OutI K mg W σ Φ0 H0 A0 (g r env') Q) := by
  cases res with
  | ok r s => exact fun v Φ' H' g' r' q => ⟨r, s, rfl, Φ', g', r', q, h⟩
  | ex x s => exact h
  | bad => exact h
theorem OutL.bindI {res : Re (List R)} {g : List R → Sg → Re (List D)} {Q : It → Hp → Prop} (h : OutI K mg W σ Φ0 H0 A0 (res.bind g) Q) :
    OutL K mg W σ Φ0 H0 A0 res (fun vs H' => ∃ rs env' Φ', Good K Φ' H' env' σ ∧ RRs K Φ' H' env' σ vs rs ∧ Pres Φ0 H0 A0 Φ' H' (Ow env' σ) ∧ OutI K mg W σ Φ0 H0 A0 (g rs env') Q) := by
  cases res with
  | ok r s => exact fun v Φ' H' g' r' q => ⟨r, s, Φ', g', r', q, h⟩
  | ex x s => exact h
  | bad => exact h
theorem walkL {a : Addr} {vs : List V} {ds : List D} (sq : SqL K Φ a vs) (ra : RpA K Φ vs ds) (z : ds.length ≤ sizeLine) : WalkD K (Itl K a) Φ H ds :=
  ⟨z, fun Φ' H' l l' => ⟨⟨vs, l'.sqL (l.sqL sq), by rw [ra.length]; exact Nat.le_refl _⟩, fun i d e => by
    obtain ⟨v, h1, h2⟩ := ra.get e
    refine ⟨⟨vs, v, l'.sqL (l.sqL sq), h1⟩, fun x H'' ⟨e1, e2⟩ => ?_⟩
    subst e1
    have e3 := e2 vs (l'.sqL (l.sqL sq))
    rw [h1] at e3; cases e3
    exact ⟨Φ', Le.refl _, l', Le.refl _, fun _ z => .inl z, h2.mono l⟩⟩⟩
theorem walkT {a : Addr} {vs : List V} {ds : List D} (sq : SqT K Φ a vs) (ra : RpA K Φ vs ds) (z : ds.length ≤ sizeLine) : WalkD K (Itt K a) Φ H ds :=
  ⟨z, fun Φ' H' l l' => ⟨⟨vs, l'.sqT (l.sqT sq), by rw [ra.length]; exact Nat.le_refl _⟩, fun i d e => by
    obtain ⟨v, h1, h2⟩ := ra.get e
    refine ⟨⟨vs, v, l'.sqT (l.sqT sq), h1⟩, fun x H'' ⟨e1, e2⟩ => ?_⟩
    subst e1
    have e3 := e2 vs (l'.sqT (l.sqT sq))
    rw [h1] at e3; cases e3
    exact ⟨Φ', Le.refl _, l', Le.refl _, fun _ z => .inl z, h2.mono l⟩⟩⟩
theorem walkR {lo : Int} {n : Nat} (z : n ≤ sizeLine) : WalkD K (Itr lo n) Φ H ((List.range n).map fun i => .int (lo + (i : Nat))) :=
  ⟨by simpa using z, fun Φ' H' l l' => ⟨by simp [Itr], fun i d e => by
    have hi : i < n := by
      have := (List.getElem?_eq_some_iff.mp e).1; simpa using this
    refine ⟨hi, fun x H'' ⟨e1, e2⟩ => ?_⟩
    subst e1; subst e2
    have : d = .int (lo + (i : Nat)) := by
      rw [List.getElem?_map, List.getElem?_range hi] at e; cases e; rfl
    subst this
    exact ⟨Φ', Le.refl _, l', Le.refl _, fun _ z => .inl z, .int _⟩⟩⟩
end
/-- over a list or a tuple -/
def semSeq (f : Sem) : SemI := fun s => (f s).bind fun r s1 => match r with
  | .val d => match seqOf d with
    | some ds => .ok ds s1
    | none => .bad
  | _ => .bad
theorem it_list {tg : Expr} {pins : List (Addr × Obj)} {s1 : Shared} {σ : Sl} {H1 : Hp} {a : Addr} {xs : List V} {R : It → Hp → Prop} {E : Value → Shared → Prop} (I1 : Inv X pins σ H1 s1) (hq : SqL X.K H1 a xs) (q : R (Itl X.K a) H1) :
    wpAny (model X.prog X.w) X.A (pyIter (.ref a)) (PIE X pins σ tg R) E s1 := by
  obtain ⟨its, rv, p, hz⟩ := I1.list hq
  refine wpAny_pyIter_list p.isList ?_
  refine ⟨s1.heap.objs.size, [s1.heap.objs.size], _, _, H1, rfl, I1.kept (t' := s1.toks) fun b o e => Heap.get?_push_of_some _ e, turn_list a _, ⟨_, Heap.get?_push_size _ rfl, rfl, rfl⟩, fun b hb => ?_, q⟩
  have e : b = s1.heap.objs.size := by simpa using hb
  subst e
  exact I1.fpOk (Nat.le_refl _) (I1.hok.fresh (Nat.le_refl _))
theorem it_tup {tg : Expr} {pins : List (Addr × Obj)} {s1 : Shared} {σ : Sl} {H1 : Hp} {a : Addr} {xs : List V} {R : It → Hp → Prop} {E : Value → Shared → Prop} (I1 : Inv X pins σ H1 s1) (hq : SqT X.K H1 a xs) (q : R (Itt X.K a) H1) :
    wpAny (model X.prog X.w) X.A (pyIter (.ref a)) (PIE X pins σ tg R) E s1 := by
  obtain ⟨its, rv, p, hz⟩ := I1.tuple hq
  refine wpAny_pyIter_tuple (show s1.heap.IsTuple a its.toArray from p) ?_
  refine ⟨s1.heap.objs.size, [s1.heap.objs.size], _, _, H1, rfl, I1.kept (t' := s1.toks) fun b o e => Heap.get?_push_of_some _ e, turn_tuple a _, ⟨_, Heap.get?_push_size _ rfl, rfl, rfl⟩, fun b hb => ?_, q⟩
  have e : b = s1.heap.objs.size := by simpa using hb
  subst e
  exact I1.fpOk (Nat.le_refl _) (I1.hok.fresh (Nat.le_refl _))
theorem di_seq {tg e : Expr} {f : Sem} (h : DE T N sc cold top k e f) : DI T N sc cold top k tg e (semSeq f) := fun X W F => by
  refine ⟨fun pins s σ H R I ⟨Φ, env, g0, o⟩ => ?_⟩
  have hh := (h X W F).run pins s σ H _ I ⟨Φ, env, g0, Out.bindI o⟩
  refine thn hh fun v s1 ⟨x, H1, I1, r1, r, env1, e1, Φ1, g1, rr, p1, o1⟩ => ?_
  cases r with
  | val d =>
    have p1' := p1.plain fun b => RO.not (r := .val d) rfl b
    cases e2 : seqOf d with
    | none => simp only [e2] at o1; exact o1.elim
    | some ds =>
      simp only [e2] at o1
      have rr : Rp T.K Φ1 x d := rr
      cases rr with
      | lst sq ra z =>
        cases e2; cases r1
        exact it_list I1 (by rw [F.eK]; exact (g1.le.ls sq).sq) (by rw [F.eK]; exact o1 _ Φ1 H1 g1 (walkL sq.sq ra z) p1')
      | tup sq ra z =>
        cases e2; cases r1
        exact it_tup I1 (.inl (.inl (g1.le _ _ sq))) (by rw [F.eK]; exact o1 _ Φ1 H1 g1 (walkT (.inl (.inl sq)) ra z) p1')
      | _ => cases e2
  | own w => exact o1.elim
  | slot i => exact o1.elim
/-- over range(..) -/
def intsOf (s : Sg) (rs : List R) : Option (List Int) := match rs with
  | [] => some []
  | r :: rs => (intOf r s).bind fun i => (intsOf s rs).bind fun l => some (i :: l)
/-- |i| ≤ m, said so that nobody takes a large number apart -/
def absLe (i : Int) (m : Nat) : Bool := Nat.ble i.natAbs m
theorem absLe_iff {i : Int} {m : Nat} : absLe i m = true ↔ -(m : Int) ≤ i ∧ i ≤ m := by
  unfold absLe; rw [Nat.ble_eq]; omega
def rangeOk (i j : Int) : Bool := absLe i 4611686018427387903 && absLe j 4611686018427387903 && decide ((j - i).toNat ≤ sizeLine)
def rangeD (i : Int) (n : Nat) : List D := (List.range n).map fun m => .int (i + (m : Nat))
def semRange1 (fs : List Arg) : SemI := fun s => (semArgs fs s).bind fun rs s1 => match intsOf s1 rs with
  | some [j] => if rangeOk 0 j = true then .ok (rangeD 0 j.toNat) s1 else .bad
  | _ => .bad
def semRange2 (fs : List Arg) : SemI := fun s => (semArgs fs s).bind fun rs s1 => match intsOf s1 rs with
  | some [i, j] => if rangeOk i j = true then .ok (rangeD i (j - i).toNat) s1 else .bad
  | _ => .bad
theorem RRs.intsOf {K : PySem.W.Frag} {σ : Sl} {Φ H : Hp} {env : Sg} {rs : List R} {vs : List V} {is : List Int} (g : Good K Φ H env σ) (h : RRs K Φ H env σ vs rs) (e : EV.intsOf env rs = some is) : vs = is.map V.int := by
  induction h generalizing is with
  | nil => cases e; rfl
  | cons a b c ih =>
    rename_i v vs r rs
    simp only [EV.intsOf] at e
    cases e1 : intOf r env with
    | none => rw [e1] at e; cases e
    | some d =>
      rw [e1] at e
      cases e2 : EV.intsOf env rs with
      | none => rw [e2] at e; cases e
      | some ds' => rw [e2] at e; cases e; rw [a.intOf g e1, ih e2]; rfl
theorem rangeOk_of {i j : Int} (h : rangeOk i j = true) : -(2 ^ 62) ≤ i ∧ i < 2 ^ 62 ∧ -(2 ^ 62) ≤ j ∧ j < 2 ^ 62 ∧ (j - i).toNat ≤ sizeLine := by
  simp only [rangeOk, Bool.and_eq_true, decide_eq_true_eq, absLe_iff] at h
  exact ⟨by omega, by omega, by omega, by omega, h.2⟩
theorem starEach1 {e : Expr} {env : PySem.Env} (h : noStar e = true) : starEach [e] env = [(false, eval e env)] := starEach_one h
theorem di_range1 {tg a : Expr} {p pos : Pos} {fs : List Arg} (ha : DA T N sc cold top k [a] fs) (hg : sc.names.lookup ("range" : Str) = some .globalImplicit) (hm : T.mg "range" = none) (hs : noStar a = true) :
    DI T N sc cold top k tg (.Call (.Name "range" p) [a] [] pos) (semRange1 fs) := fun X W F =>
  PIimp (pi_range1 (gl_of F hg) (by rw [F.em]; exact hm) (ha X W F) (starEach1 hs)) fun σ H Q ⟨Φ, env, g0, o⟩ => ⟨Φ, env, g0, (OutL.bindI o).mono fun vs H1 ⟨rs, env1, Φ1, g1, r1, p1, o1⟩ => by
    cases e : intsOf env1 rs with
    | none => rw [e] at o1; exact o1.elim
    | some is =>
      have ev := r1.intsOf g1 e
      match is, e, o1, ev with
      | [], e, o1, ev => rw [e] at o1; exact o1.elim
      | [j], e, o1, ev =>
        rw [e] at o1
        simp only at o1
        split at o1
        · rename_i hr
          obtain ⟨h1, h2, h3, h4, h5⟩ := rangeOk_of hr
          exact ⟨j, ev, h3, h4, o1 _ Φ1 H1 g1 (walkR (by simpa using h5)) p1⟩
        · exact o1.elim
      | i :: j :: r, e, o1, ev => rw [e] at o1; exact o1.elim⟩
theorem di_range2 {tg a b : Expr} {p pos : Pos} {fs : List Arg} (ha : DA T N sc cold top k [a, b] fs) (hg : sc.names.lookup ("range" : Str) = some .globalImplicit) (hm : T.mg "range" = none) (hs : noStar a = true) (hs2 : noStar b = true) :
    DI T N sc cold top k tg (.Call (.Name "range" p) [a, b] [] pos) (semRange2 fs) := fun X W F =>
  PIimp (pi_range2 (gl_of F hg) (by rw [F.em]; exact hm) (ha X W F) (by rw [starEach_one hs, starEach1 hs2]) (starEach1 hs2)) fun σ H Q ⟨Φ, env, g0, o⟩ => ⟨Φ, env, g0, (OutL.bindI o).mono fun vs H1 ⟨rs, env1, Φ1, g1, r1, p1, o1⟩ => by
    cases e : intsOf env1 rs with
    | none => rw [e] at o1; exact o1.elim
    | some is =>
      have ev := r1.intsOf g1 e
      match is, e, o1, ev with
      | [], e, o1, ev => rw [e] at o1; exact o1.elim
      | [j], e, o1, ev => rw [e] at o1; exact o1.elim
      | [i, j], e, o1, ev =>
        rw [e] at o1
        simp only at o1
        split at o1
        · rename_i hr
          obtain ⟨h1, h2, h3, h4, h5⟩ := rangeOk_of hr
          exact ⟨i, j, ev, ⟨h1, h2, h3, h4⟩, o1 _ Φ1 H1 g1 (walkR h5) p1⟩
        · exact o1.elim
      | i :: j :: l :: r, e, o1, ev => rw [e] at o1; exact o1.elim⟩
/-- over zip of two lists, of two tuples -/
def zipD : List D → List D → List D
  | a :: as, b :: bs => .tuple [a, b] :: zipD as bs
  | _, _ => []
def semZip2 (fs : List Arg) : SemI := fun s => (semArgs fs s).bind fun rs s1 => match rs with
  | [.val (.list as), .val (.list bs)] => .ok (zipD as bs) s1
  | [.val (.tuple as), .val (.tuple bs)] => .ok (zipD as bs) s1
  | _ => .bad
end
end EV
end
section
set_option Elab.async false
set_option linter.all false
set_option maxRecDepth 100000
set_option autoImplicit false
/-! EV7: list comprehensions of one clause -/
namespace EV
open PySem PySem.Spec PyProof.Rows L2

/-- no exception leaves a comprehension's block -/
abbrev WF : WX := fun _ _ _ _ => False
section
variable {T : Tx} {N : List Str} {sc : Scope} {cold top : Bool} {k : Nat} {X : Cx} {W : WX}
theorem Fx.blk (F : Fx T N sc cold top k X W) (s : Shared) (H : Hp) (scope : Scope) (C : Addr) (cl : List (Str × Addr)) (fp : List Addr) : Fx T N (relS scope sc) cold false k (X.blk s H scope (compEnvC scope cl C X.env) fp) WF where
  eP := F.eP
  ew := F.ew
  eK := F.eK
  em := F.em
  eb := F.eb
  eN := F.eN
  nd := F.nd
  es := by show relS scope X.env.scope = _; rw [F.es]
  tk := fun u s' ⟨_, _, _, _, _, _, _, _, _, _, _, _, _, _, _, _, w⟩ => w
  ps := PassesOwn.never
  rm := F.rm
  cal := F.cal
  fn := fun h => nomatch h
  tp := fun h => nomatch h
def isLoc (sc : Scope) (x : Str) : Bool := match sc.names.lookup x with
  | some .local => true
  | some .cell => true
  | _ => false
mutual
def tgOk (N : List Str) (sc : Scope) (ok : Str → Bool) : Expr → Option Tg
  | .Name x _ => if (ok x && isLoc sc x) = true then (N.idxOf? x).map .one else none
  | .Tuple es _ _ => (tgsOk N sc ok es).map .tup
  | _ => none
def tgsOk (N : List Str) (sc : Scope) (ok : Str → Bool) : List Expr → Option Tgs
  | [] => some .nil
  | e :: es => (tgOk N sc ok e).bind fun t => (tgsOk N sc ok es).bind fun l => some (.cons t l)
end
theorem idx_get {N : List Str} {x : Str} {i : Nat} (h : N.idxOf? x = some i) : N[i]? = some x := by
  rw [List.idxOf?, List.findIdx?_eq_some_iff_getElem] at h
  obtain ⟨hi, h1, _⟩ := h
  rw [List.getElem?_eq_getElem hi]
  simpa using h1
theorem loc_of {x : Str} (h : isLoc sc x = true) : L2.Loc sc x := by
  unfold L2.Loc
  unfold isLoc at h
  cases e : sc.names.lookup x with
  | none => rw [e] at h; cases h
  | some z => rw [e] at h; cases z <;> first | exact .inl rfl | exact .inr rfl | cases h
theorem assignEach_one {e : Expr} {es : List Expr} {env : PySem.Env} (h : noStar e = true) : assignEach (e :: es) env = (false, assign e env) :: assignEach es env := by
  cases e <;> first | rfl | cases h
theorem tgOk_star {ok : Str → Bool} {e : Expr} {t : Tg} (h : tgOk N sc ok e = some t) : noStar e = true := by
  cases e <;> first | rfl | (simp [tgOk] at h)
theorem tgs_shape {ok : Str → Bool} {env : PySem.Env} : ∀ {es : List Expr} {l : Tgs}, tgsOk N sc ok es = some l → (assignEach es env).length = l.len ∧ (assignEach es env).findIdx? (·.1) = none
  | [], l, h => by
    simp only [tgsOk, Option.some.injEq] at h; subst h; exact ⟨rfl, rfl⟩
  | e :: es, l, h => by
    simp only [tgsOk] at h
    cases e1 : tgOk N sc ok e with
    | none => rw [e1] at h; cases h
    | some t =>
      cases e2 : tgsOk N sc ok es with
      | none => rw [e1, e2] at h; cases h
      | some l' =>
        rw [e1, e2] at h; cases h
        obtain ⟨h1, h2⟩ := tgs_shape (env := env) e2
        rw [assignEach_one (tgOk_star e1)]
        refine ⟨by simp [h1, Tgs.len], ?_⟩
        rw [List.findIdx?_cons]
        simp [h2]
mutual
theorem pg_of {ok : Str → Bool} (F : Fx T N sc cold top k X W) (hc : cold = true) (hf : ∀ x, ok x = true → L2.Loc sc x → X.fn x = true ∨ X.env.scope.names.lookup x = some .local) : ∀ (e : Expr) (t : Tg), tgOk N sc ok e = some t → PG X e (tTg T.K t)
  | .Name x pos, t, h => by
    simp only [tgOk] at h
    split at h
    · rename_i hx
      cases e1 : N.idxOf? x with
      | none => rw [e1] at h; cases h
      | some i =>
        rw [e1] at h; cases h
        have hx := Bool.and_eq_true_iff.mp hx
        have hl := loc_of hx.2
        exact pg_one F (idx_get e1) hl (hf x hx.1 hl)
    · cases h
  | .Tuple es kk pos, t, h => by
    simp only [tgOk] at h
    cases e1 : tgsOk N sc ok es with
    | none => rw [e1] at h; cases h
    | some l =>
      rw [e1] at h; cases h
      obtain ⟨h1, h2⟩ := tgs_shape (env := X.env) e1
      exact pg_seq F hc (pgs_of F hc hf es l e1) h1 h2
  | .BoolOp .., t, h => by simp [tgOk] at h
  | .NamedExpr .., t, h => by simp [tgOk] at h
  | .BinOp .., t, h => by simp [tgOk] at h
  | .UnaryOp .., t, h => by simp [tgOk] at h
  | .Lambda .., t, h => by simp [tgOk] at h
  | .IfExp .., t, h => by simp [tgOk] at h
  | .Dict .., t, h => by simp [tgOk] at h
  | .Set .., t, h => by simp [tgOk] at h
  | .ListComp .., t, h => by simp [tgOk] at h
  | .SetComp .., t, h => by simp [tgOk] at h
  | .DictComp .., t, h => by simp [tgOk] at h
  | .GeneratorExp .., t, h => by simp [tgOk] at h
  | .Await .., t, h => by simp [tgOk] at h
  | .Yield .., t, h => by simp [tgOk] at h
  | .YieldFrom .., t, h => by simp [tgOk] at h
  | .Compare .., t, h => by simp [tgOk] at h
  | .Call .., t, h => by simp [tgOk] at h
  | .FormattedValue .., t, h => by simp [tgOk] at h
  | .JoinedStr .., t, h => by simp [tgOk] at h
  | .Constant .., t, h => by simp [tgOk] at h
  | .Attribute .., t, h => by simp [tgOk] at h
  | .Subscript .., t, h => by simp [tgOk] at h
  | .Starred .., t, h => by simp [tgOk] at h
  | .List .., t, h => by simp [tgOk] at h
  | .Slice .., t, h => by simp [tgOk] at h
theorem pgs_of {ok : Str → Bool} (F : Fx T N sc cold top k X W) (hc : cold = true) (hf : ∀ x, ok x = true → L2.Loc sc x → X.fn x = true ∨ X.env.scope.names.lookup x = some .local) : ∀ (es : List Expr) (l : Tgs), tgsOk N sc ok es = some l → PGs X es (tTgs T.K l)
  | [], l, h => by
    simp only [tgsOk, Option.some.injEq] at h; subst h; exact pgs_none
  | e :: es, l, h => by
    simp only [tgsOk] at h
    cases e1 : tgOk N sc ok e with
    | none => rw [e1] at h; cases h
    | some t =>
      cases e2 : tgsOk N sc ok es with
      | none => rw [e1, e2] at h; cases h
      | some l' =>
        rw [e1, e2] at h; cases h
        exact pgs_more (pg_of F hc hf e t e1) (pgs_of F hc hf es l' e2) (by rw [assignEach_one (tgOk_star e1)]; rfl)
end

/-! ### [elt for target in iter if ..] -/
def unS (is : List Nat) (s : Sg) : Sg := is.foldr (fun i s => s.set i .un) s
/-- the slots of the block come back -/
def backS (is : List Nat) (s0 s : Sg) : Sg := is.foldr (fun i s => s.set i (s0.getD i .un)) s
/-- without exceptions -/
def Re.bindN {α β : Type} (x : Re α) (f : α → Sg → Re β) : Re β := match x with
  | .ok a s => f a s
  | _ => .bad
def compLoop (vs : List Nat) (t : Tg) (c : SemB) (f : Sem) : List D → Sg → Re (List D)
  | [], s => .ok [] (unS vs s)
  | d :: ds, s => match t.bind d (unS vs s) with
    | none => .bad
    | some s1 => (c s1).bindN fun b s2 => if b = true then (f s2).bindN fun r s3 => match r with
        | .val y => (compLoop vs t c f ds s3).bindN fun ys s4 => .ok (y :: ys) s4
        | _ => .bad
      else compLoop vs t c f ds s2
/-- the slots of a block hold nothing owned -/
def noOwn (is : List Nat) (s : Sg) : Bool := is.all fun i => match s[i]? with
  | some (.own _) => false
  | _ => true
def semComp (vs : List Nat) (t : Tg) (it : SemI) (c : SemB) (f : Sem) : Sem := fun s => (it s).bind fun ds s1 => if noOwn vs s1 = true then (compLoop vs t c f ds s1).bindN fun ys s2 => .ok (.own (.lst ys)) (backS vs s1 s2) else .bad
theorem compLoop_length {vs : List Nat} {t : Tg} {c : SemB} {f : Sem} : ∀ {ds : List D} {s : Sg} {ys : List D} {s' : Sg}, compLoop vs t c f ds s = .ok ys s' → ys.length ≤ ds.length
  | [], s, ys, s', h => by simp only [compLoop] at h; cases h; exact Nat.le_refl _
  | d :: ds, s, ys, s', h => by
    simp only [compLoop] at h
    cases e1 : t.bind d (unS vs s) with
    | none => rw [e1] at h; cases h
    | some s1 =>
      rw [e1] at h
      cases e2 : c s1 with
      | ok b s2 =>
        simp only [e2, Re.bindN] at h
        cases b with
        | true =>
          simp only [if_true] at h
          cases e3 : f s2 with
          | ok r s3 =>
            simp only [e3] at h
            cases r with
            | val y =>
              simp only at h
              cases e4 : compLoop vs t c f ds s3 with
              | ok zs s4 => rw [e4] at h; cases h; have := compLoop_length e4; simp; omega
              | ex x s4 => rw [e4] at h; cases h
              | bad => rw [e4] at h; cases h
            | _ => cases h
          | ex x s3 => simp only [e3] at h; cases h
          | bad => simp only [e3] at h; cases h
        | false => simp only [Bool.false_eq_true, if_false] at h; have := compLoop_length h; simp; omega
      | ex x s2 => simp only [e2, Re.bindN] at h; cases h
      | bad => simp only [e2, Re.bindN] at h; cases h
theorem unS_length (is : List Nat) (s : Sg) : (unS is s).length = s.length := by
  unfold unS
  induction is with
  | nil => rfl
  | cons i is ih => simpa using ih
theorem unS_get {is : List Nat} {s : Sg} {i : Nat} (h : i ∉ is) : (unS is s)[i]? = s[i]? := by
  unfold unS
  induction is with
  | nil => rfl
  | cons j is ih =>
    simp only [List.mem_cons, not_or] at h
    simp only [List.foldr_cons]
    rw [get_set_ne (Ne.symm h.1)]
    exact ih h.2
theorem unS_in {is : List Nat} {s : Sg} {i : Nat} (h : i ∈ is) {x : SV} (e : (unS is s)[i]? = some x) : x = .un := by
  unfold unS at e
  induction is with
  | nil => cases h
  | cons j is ih =>
    simp only [List.foldr_cons] at e
    by_cases hj : j = i
    · subst hj
      rw [List.getElem?_set_self'] at e
      cases q : (List.foldr (fun i s => s.set i SV.un) s is)[j]? with
      | none => rw [q] at e; cases e
      | some y => rw [q] at e; cases e; rfl
    · rw [get_set_ne hj] at e
      exact ih (by simpa [Ne.symm hj] using h) e
theorem wipe_get {σ : Sl} {i : Nat} : ∀ {vs : List Nat}, i ∉ vs → (wipe σ vs)[i]? = σ[i]?
  | [], _ => rfl
  | v :: vs, h => by
    simp only [List.mem_cons, not_or] at h
    unfold wipe
    rw [List.getElem?_set_ne (Ne.symm h.1)]
    exact wipe_get h.2
theorem wipe_in {σ : Sl} {i : Nat} {x : Option V} : ∀ {vs : List Nat}, i ∈ vs → (wipe σ vs)[i]? = some x → x = none
  | v :: vs, h, e => by
    unfold wipe at e
    by_cases hv : v = i
    · subst hv
      rw [List.getElem?_set_self'] at e
      cases q : (wipe σ vs)[v]? with
      | none => rw [q] at e; cases e
      | some y => rw [q] at e; cases e; rfl
    · rw [List.getElem?_set_ne hv] at e
      exact wipe_in (by simpa [Ne.symm hv] using h) e
/-- σ' is σ but for the slots is -/
theorem wipe_same {σ σ' : Sl} {is vs : List Nat} (s : Same' is (wipe σ vs) σ') (h : ∀ i ∈ is, i ∈ vs) : wipe σ' vs = wipe σ vs := by
  apply List.ext_getElem?
  intro i
  by_cases hi : i ∈ vs
  · have l1 : (wipe σ' vs).length = (wipe σ vs).length := by rw [wipe_length, s.1]
    cases e1 : (wipe σ' vs)[i]? with
    | none =>
      rw [List.getElem?_eq_none_iff] at e1
      exact (List.getElem?_eq_none_iff.mpr (by omega)).symm
    | some x =>
      cases e2 : (wipe σ vs)[i]? with
      | none =>
        rw [List.getElem?_eq_none_iff] at e2
        have := (List.getElem?_eq_some_iff.mp e1).1
        omega
      | some y => rw [wipe_in hi e1, wipe_in hi e2]
  · rw [wipe_get hi, s.2 i fun z => hi (h i z)]
/-- the slots of a block forgotten -/
theorem Good.unS {K : PySem.W.Frag} {Φ H : Hp} {env : Sg} {σ σ' : Sl} {vs : List Nat} (g : Good K Φ H env σ) (hl : σ'.length = σ.length) (hs : ∀ i, i ∉ vs → σ'[i]? = σ[i]?) : Good K Φ H (EV.unS vs env) σ' ∧ ∀ a, Ow (EV.unS vs env) σ' a → Ow env σ a := by
  have key : ∀ i x, (EV.unS vs env)[i]? = some x → x ≠ .un → i ∉ vs ∧ env[i]? = some x := fun i x e n => by
    by_cases hi : i ∈ vs
    · exact absurd (unS_in hi e) n
    · rw [unS_get hi] at e; exact ⟨hi, e⟩
  refine ⟨⟨g.le, by rw [unS_length, hl]; exact g.er.len, fun i d e => ?_, fun i o e => ?_, fun i j o o' a e1 e2 e3 e4 => ?_⟩, fun a ⟨i, o, e1, e2⟩ => ?_⟩
  · obtain ⟨h1, h2⟩ := key i _ e (by intro z; cases z)
    rw [hs i h1]; exact g.er.vl i d h2
  · obtain ⟨h1, h2⟩ := key i _ e (by intro z; cases z)
    rw [hs i h1]; exact g.er.ow i o h2
  · obtain ⟨h1, h2⟩ := key i _ e1 (by intro z; cases z)
    obtain ⟨h3, h4⟩ := key j _ e2 (by intro z; cases z)
    rw [hs i h1] at e3; rw [hs j h3] at e4
    exact g.er.dj i j o o' a h2 h4 e3 e4
  · obtain ⟨h1, h2⟩ := key i _ e1 (by intro z; cases z)
    rw [hs i h1] at e2
    exact ⟨i, o, h2, e2⟩
theorem backS_length (is : List Nat) (s0 s : Sg) : (backS is s0 s).length = s.length := by
  unfold backS
  induction is with
  | nil => rfl
  | cons i is ih => simpa using ih
theorem backS_get {is : List Nat} {s0 s : Sg} {i : Nat} (h : i ∉ is) : (backS is s0 s)[i]? = s[i]? := by
  unfold backS
  induction is with
  | nil => rfl
  | cons j is ih =>
    simp only [List.mem_cons, not_or] at h
    simp only [List.foldr_cons]
    rw [get_set_ne (Ne.symm h.1)]
    exact ih h.2
theorem backS_in {is : List Nat} {s0 s : Sg} {i : Nat} (h : i ∈ is) {x : SV} (e : (backS is s0 s)[i]? = some x) : x = s0.getD i .un := by
  unfold backS at e
  induction is with
  | nil => cases h
  | cons j is ih =>
    simp only [List.foldr_cons] at e
    by_cases hj : j = i
    · subst hj
      rw [List.getElem?_set_self'] at e
      cases q : (List.foldr (fun i s => s.set i (s0.getD i SV.un)) s is)[j]? with
      | none => rw [q] at e; cases e
      | some y => rw [q] at e; cases e; rfl
    · rw [get_set_ne hj] at e
      exact ih (by simpa [Ne.symm hj] using h) e
/-- behind a block: the slots as they were -/
theorem Good.backS {K : PySem.W.Frag} {Φ0 H0 Φ H : Hp} {env0 env : Sg} {σ : Sl} {vs : List Nat} (g0 : Good K Φ0 H0 env0 σ) (hn : noOwn vs env0 = true) (l : Le Φ0 Φ) (g : Good K Φ H env (wipe σ vs)) : Good K Φ H (EV.backS vs env0 env) σ ∧ ∀ a, Ow (EV.backS vs env0 env) σ a → Ow env (wipe σ vs) a := by
  have no : ∀ i, i ∈ vs → ∀ o, env0[i]? ≠ some (.own o) := fun i hi o e => by
    have := List.all_eq_true.mp hn i hi
    rw [e] at this; cases this
  have key : ∀ i o, (EV.backS vs env0 env)[i]? = some (.own o) → i ∉ vs ∧ env[i]? = some (.own o) := fun i o e => by
    by_cases hi : i ∈ vs
    · have z := backS_in hi e
      cases q : env0[i]? with
      | none => rw [List.getD_eq_getElem?_getD, q] at z; cases z
      | some y => rw [List.getD_eq_getElem?_getD, q] at z; exact absurd (q.trans (by rw [show y = .own o from z.symm])) (no i hi o)
    · rw [backS_get hi] at e; exact ⟨hi, e⟩
  refine ⟨⟨g.le, by rw [backS_length, g.er.len, wipe_length], fun i d e => ?_, fun i o e => ?_, fun i j o o' a e1 e2 e3 e4 => ?_⟩, fun a ⟨i, o, e1, e2⟩ => ?_⟩
  · by_cases hi : i ∈ vs
    · have z := backS_in hi e
      cases q : env0[i]? with
      | none => rw [List.getD_eq_getElem?_getD, q] at z; cases z
      | some y =>
        rw [List.getD_eq_getElem?_getD, q] at z
        obtain ⟨v, h1, h2⟩ := g0.er.vl i d (q.trans (by rw [show y = .val d from z.symm]))
        exact ⟨v, h1, h2.mono l⟩
    · rw [backS_get hi] at e
      obtain ⟨v, h1, h2⟩ := g.er.vl i d e
      rw [wipe_get hi] at h1; exact ⟨v, h1, h2⟩
  · obtain ⟨h1, h2⟩ := key i o e
    obtain ⟨a, h3, h4⟩ := g.er.ow i o h2
    rw [wipe_get h1] at h3; exact ⟨a, h3, h4⟩
  · obtain ⟨h1, h2⟩ := key i o e1
    obtain ⟨h3, h4⟩ := key j o' e2
    exact g.er.dj i j o o' a h2 h4 (by rw [wipe_get h1]; exact e3) (by rw [wipe_get h3]; exact e4)
  · obtain ⟨h1, h2⟩ := key i o e1
    exact ⟨i, o, h2, by rw [wipe_get h1]; exact e2⟩
end
end EV
end
section
set_option Elab.async false
set_option linter.all false
set_option maxRecDepth 100000
set_option autoImplicit false
/-! EV8: the rule of a list comprehension -/
namespace EV
open PySem PySem.Spec PyProof.Rows L2
section
variable {T : Tx} {N : List Str} {sc : Scope} {cold top : Bool} {k : Nat} {X : Cx} {W : WX}
theorem Good.other {K : PySem.W.Frag} {Φ H : Hp} {env : Sg} {σ : Sl} {a : Addr} {u : HO} (g : Good K Φ H env σ) (n : Φ a = none) (no : ¬ Ow env σ a) : Good K Φ (upd H a u) env σ := by
  refine ⟨fun b o e => ?_, g.er.len, g.er.vl, fun i o e => ?_, g.er.dj⟩
  · rw [upd_ne (ne_of_none e n)]; exact g.le b o e
  · obtain ⟨b, h1, h2, h3⟩ := g.er.ow i o e
    refine ⟨b, h1, h2, h3.mono (Le.refl _) (upd_ne ?_)⟩
    rintro rfl; exact no ⟨i, o, e, h1⟩
theorem bindN_ok {α β : Type} {x : Re α} {f : α → Sg → Re β} {b : β} {s : Sg} (h : x.bindN f = .ok b s) : ∃ a s1, x = .ok a s1 ∧ f a s1 = .ok b s := by
  cases x with
  | ok a s1 => exact ⟨a, s1, rfl, h⟩
  | _ => cases h
/-- one turn of the loop -/
theorem compLoop_cons {vs : List Nat} {t : Tg} {c : SemB} {f : Sem} {d : D} {ds zs : List D} {s s' : Sg} (h : compLoop vs t c f (d :: ds) s = .ok zs s') :
    ∃ s1 b s2, t.bind d (unS vs s) = some s1 ∧ c s1 = .ok b s2 ∧ ((b = true ∧ ∃ y s3 zs', f s2 = .ok (.val y) s3 ∧ compLoop vs t c f ds s3 = .ok zs' s' ∧ zs = y :: zs') ∨ (b = false ∧ compLoop vs t c f ds s2 = .ok zs s')) := by
  simp only [compLoop] at h
  cases e1 : t.bind d (unS vs s) with
  | none => rw [e1] at h; cases h
  | some s1 =>
    rw [e1] at h
    obtain ⟨b, s2, e2, h⟩ := bindN_ok h
    refine ⟨s1, b, s2, rfl, e2, ?_⟩
    cases b with
    | true =>
      rw [if_pos rfl] at h
      obtain ⟨r, s3, e3, h⟩ := bindN_ok h
      cases r with
      | val y =>
        obtain ⟨zs', s4, e4, h⟩ := bindN_ok h
        cases h
        exact .inl ⟨rfl, y, s3, zs', e3, e4, rfl⟩
      | _ => cases h
    | false => rw [if_neg Bool.false_ne_true] at h; exact .inr ⟨rfl, h⟩
def DC (T : Tx) (N : List Str) (sc : Scope) (cold top : Bool) (k : Nat) (es : List Expr) (c : SemB) : Prop := ∀ X W, Fx T N sc cold top k X W → ∃ t, PTs X es t ∧ ∀ σ H Q, tB T.K T.mg W c σ H Q → t σ H Q
theorem dc_nil : DC T N sc cold top k [] (fun s => .ok true s) := fun X W F => ⟨_, pts_nil, fun σ H Q ⟨Φ, env, g, o⟩ => o Φ H g (Pres.refl _ _ _)⟩
theorem dc_one {e : Expr} {c : SemB} (h : DT T N sc cold top k e c) : DC T N sc cold top k [e] c := fun X W F => ⟨_, pts_one (h X W F), fun _ _ _ h => h⟩
theorem comp_imp {K : PySem.W.Frag} {mg : Str → Option Value} {vs : List Nat} {t : Tg} {it : SemI} {c : SemB} {f : Sem} {tt : TT} (ht : ∀ σ H Q, tB K mg WF c σ H Q → tt σ H Q) (hsub : ∀ i ∈ t.slots, i ∈ vs) {σ : Sl} {H : Hp} {Q : VK}
    (h : tR K mg W (semComp vs t it c f) σ H Q) : tLc (tI K mg W it) (tTg K t) tt (tR K mg WF f) vs σ H Q := by
  obtain ⟨Φ, env, g0, o⟩ := h
  refine ⟨Φ, env, g0, ?_⟩
  have o : Out K mg W σ Φ H (Ow env σ) ((it env).bind fun ds s1 => if noOwn vs s1 = true then (compLoop vs t c f ds s1).bindN fun ys s2 => .ok (.own (.lst ys)) (backS vs s1 s2) else .bad) Q := o
  generalize it env = res at o ⊢
  cases res with
  | ex x s => exact o
  | bad => exact o
  | ok ds env1 =>
    intro J Φ1 H1 g1 wk p1 Dd hD
    have o : Out K mg W σ Φ H (Ow env σ) (if noOwn vs env1 = true then (compLoop vs t c f ds env1).bindN fun ys s2 => .ok (.own (.lst ys)) (backS vs env1 s2) else .bad) Q := o
    have hn : noOwn vs env1 = true := by
      cases hn : noOwn vs env1 with
      | true => rfl
      | false => rw [hn, if_neg Bool.false_ne_true] at o; exact o.elim
    rw [if_pos hn] at o
    cases e1 : compLoop vs t c f ds env1 with
    | ex x s => rw [e1] at o; exact o.elim
    | bad => rw [e1] at o; exact o.elim
    | ok ys s2 =>
      rw [e1] at o
      have o : Out K mg W σ Φ H (Ow env σ) (.ok (.own (.lst ys)) (backS vs env1 s2)) Q := o
      obtain ⟨hz, wk⟩ := wk
      have hys : ys.length ≤ sizeLine := Nat.le_trans (compLoop_length e1) hz
      have hl : ∀ i, i ∉ vs → (wipe σ vs)[i]? = σ[i]? := fun i hi => wipe_get hi
      refine ⟨fun i m H => m = ds.length - i ∧ i ≤ ds.length ∧ ∃ Φi envi acc accd zs, Good K Φi H (unS vs envi) (wipe σ vs) ∧ Pres Φ1 H1 (Ow env1 σ) Φi H (fun a => Ow (unS vs envi) (wipe σ vs) a ∨ a = Dd) ∧ H Dd = some (.lst acc) ∧ Φi Dd = none ∧ RpA K Φi acc accd ∧
        compLoop vs t c f (ds.drop i) envi = .ok zs s2 ∧ accd ++ zs = ys ∧ ¬ Ow (unS vs envi) (wipe σ vs) Dd, ⟨ds.length, by simp, Nat.zero_le _, Φ1, env1, [], [], ys, ?_, ?_, upd_same, g1.le.none hD, .nil, by simpa using e1, rfl, ?_⟩, ?_⟩
      · obtain ⟨gg, pp⟩ := g1.grow (Le.refl _) (g1.le.trans (upd_le hD)) (upd_le (u := .lst []) hD) fun _ z => .inl z
        exact (gg.unS (wipe_length _ _) hl).1
      · obtain ⟨gg, sub⟩ := g1.unS (σ' := wipe σ vs) (wipe_length _ _) hl
        refine ⟨Le.refl _, fun a o e _ => upd_le hD a o e, fun a h => ?_, fun _ z => .inl z⟩
        rcases h with h | h
        · exact .inl (sub a h)
        · exact .inr (h ▸ hD)
      · intro h
        obtain ⟨gg, sub⟩ := g1.unS (σ' := wipe σ vs) (wipe_length _ _) hl
        exact (g1.owned (sub _ h)).2 hD
      · rintro i m Hi ⟨rfl, hi, Φi, envi, acc, accd, zs, gi, pi, hDi, nDi, ra, e2, e3, noD⟩
        obtain ⟨st, gy⟩ := wk Φi Hi pi.ff gi.le
        by_cases hlt : i < ds.length
        · right
          obtain ⟨d, hd⟩ : ∃ d, ds[i]? = some d := ⟨ds[i], by simp [hlt]⟩
          obtain ⟨go, yl⟩ := gy i d hd
          have hdrop : ds.drop i = d :: ds.drop (i + 1) := by
            rw [List.drop_eq_getElem_cons hlt]
            have : ds[i] = d := by rw [List.getElem?_eq_getElem hlt] at hd; exact Option.some.inj hd
            rw [this]
          rw [hdrop] at e2
          obtain ⟨s1, b, s2', b1, c1, rest⟩ := compLoop_cons e2
          refine ⟨go, fun H' => ∃ m', m' < ds.length - i ∧ (m' = ds.length - (i + 1) ∧ i + 1 ≤ ds.length ∧ ∃ Φi envi acc accd zs, Good K Φi H' (unS vs envi) (wipe σ vs) ∧ Pres Φ1 H1 (Ow env1 σ) Φi H' (fun a => Ow (unS vs envi) (wipe σ vs) a ∨ a = Dd) ∧ H' Dd = some (.lst acc) ∧ Φi Dd = none ∧ RpA K Φi acc accd ∧
            compLoop vs t c f (ds.drop (i + 1)) envi = .ok zs s2 ∧ accd ++ zs = ys ∧ ¬ Ow (unS vs envi) (wipe σ vs) Dd), fun H' h => h, fun x H2 y => ?_⟩
          obtain ⟨Φ2, l1, l2, l3, l4, rx⟩ := yl x H2 y
          obtain ⟨g2, p2⟩ := gi.grow l1 l2 l3 l4
          have hD2 : H2 Dd = some (.lst acc) := l3 _ _ hDi
          have nD2 : Φ2 Dd = none := by
            cases z : Φ2 Dd with
            | none => rfl
            | some u => rcases l4 Dd (by rw [z]; simp) with y | y | ⟨_, y⟩
                        · exact absurd nDi y
                        · rw [hDi] at y; cases y
                        · rw [hDi] at y; cases y
          -- what holds of D and the base, from a later state on
          have later : ∀ {Φ3 H3 : Hp} {env3 : Sg} {σ3 : Sl}, Pres Φ2 H2 (Ow (unS vs envi) (wipe σ vs)) Φ3 H3 (Ow env3 σ3) → H3 Dd = some (.lst acc) ∧ Φ3 Dd = none ∧ ¬ Ow env3 σ3 Dd := fun {Φ3 H3 env3 σ3} p => by
            refine ⟨p.kp _ _ hD2 noD, ?_, fun h => ?_⟩
            · cases z : Φ3 Dd with
              | none => rfl
              | some u => rcases p.fz Dd (by rw [z]; simp) with y | y | y | ⟨_, y⟩
                          · exact absurd nD2 y
                          · exact absurd y noD
                          · rw [hD2] at y; cases y
                          · rw [hD2] at y; cases y
            · rcases p.nw _ h with y | y
              · exact noD y
              · rw [hD2] at y; cases y
          refine ⟨Φ2, unS vs envi, d, s1, g2, rx, b1, fun σ2 gs ps same => ⟨wipe_same same hsub, ht _ _ _ ⟨Φ2, s1, gs, ?_⟩⟩⟩
          have hl2 : (wipe σ vs).length = σ2.length := same.1.symm
          have hs2 : ∀ j, j ∉ vs → (wipe σ vs)[j]? = σ2[j]? := fun j hj => (same.2 j fun z => hj (hsub j z)).symm
          rw [c1]
          intro Φ3 H3 g3 p3
          have p3' := ps.trans p3
          rcases rest with ⟨rfl, y, s3, zs', f1, e4, rfl⟩ | ⟨rfl, e4⟩
          · rw [if_pos rfl]
            refine ⟨Φ3, s2', g3, ?_⟩
            rw [f1]
            intro v Φ4 H4 g4 rv p4
            have p4' := p3'.trans (p4.plain (r := .val y) fun b h => h)
            obtain ⟨hD4, nD4, no4⟩ := later p4'
            refine ⟨acc, hD4, ?_, ds.length - (i + 1), by omega, rfl, hlt, Φ4, s3, acc ++ [v], accd ++ [y], zs', ?_, ?_, upd_same, nD4, (ra.mono (l1.trans p4'.ff)).append (.one rv), e4, by simpa using e3, ?_⟩
            · rw [ra.length]
              have := congrArg List.length e3
              simp only [List.length_append, List.length_cons] at this
              omega
            · obtain ⟨gg, sub⟩ := g4.unS (σ' := wipe σ vs) hl2 hs2
              exact gg.other nD4 fun h => no4 (sub _ h)
            · obtain ⟨gg, sub⟩ := g4.unS (σ' := wipe σ vs) hl2 hs2
              have pp := pi.trans (((p2.trans p4').mono (B := fun a => Ow (unS vs envi) (wipe σ vs) a ∨ a = Dd) (B1 := fun a => Ow s3 σ2 a ∨ a = Dd) (fun a h => .inl h) (fun a h => h.elim .inl fun z => .inr (.inl (.inr z)))))
              refine ⟨pp.ff, fun a o e n => ?_, fun a h => ?_, pp.fz⟩
              · rw [upd_ne (ne_of_none e hD)]; exact pp.kp a o e n
              · exact pp.nw a (h.imp (sub a) id)
            · obtain ⟨gg, sub⟩ := g4.unS (σ' := wipe σ vs) hl2 hs2
              exact fun h => no4 (sub _ h)
          · rw [if_neg Bool.false_ne_true]
            obtain ⟨hD3, nD3, no3⟩ := later p3'
            obtain ⟨gg, sub⟩ := g3.unS (σ' := wipe σ vs) hl2 hs2
            refine ⟨ds.length - (i + 1), by omega, rfl, hlt, Φ3, s2', acc, accd, zs, gg, ?_, hD3, nD3, ra.mono (l1.trans p3'.ff), e4, e3, fun h => no3 (sub _ h)⟩
            have pp := pi.trans (((p2.trans p3').mono (B := fun a => Ow (unS vs envi) (wipe σ vs) a ∨ a = Dd) (B1 := fun a => Ow s2' σ2 a ∨ a = Dd) (fun a h => .inl h) (fun a h => h.elim .inl fun z => .inr (.inl (.inr z)))))
            exact ⟨pp.ff, pp.kp, fun a h => pp.nw a (h.imp (sub a) id), pp.fz⟩
        · left
          have : i = ds.length := by omega
          subst this
          rw [List.drop_length] at e2
          simp only [compLoop] at e2
          cases e2
          rw [List.append_nil] at e3
          subst e3
          refine ⟨st, ?_⟩
          obtain ⟨gb, sub⟩ := g1.backS hn pi.ff gi
          refine o (.ref Dd) Φi Hi gb ⟨Dd, rfl, nDi, ⟨acc, hDi, ra, hys⟩, fun h => noD (sub _ h)⟩ ((p1.trans pi).some fun b h => ?_)
          rcases h with h | h
          · exact .inl (sub b h)
          · cases (show V.ref Dd = V.ref b from h); exact .inr rfl
theorem de_comp {elt tg iter : Expr} {ifs : List Expr} {scope : Scope} {own : List (Str × Nat)} {pos : Pos} {t : Tg} {it : SemI} {c : SemB} {f : Sem} (hc : cold = true) (hi : DI T N sc cold top k tg iter it) (hb : blkC N sc scope own = true)
    (htg : tgOk N (relS scope sc) (isLoc scope) tg = some t) (hsub : t.slots.all (fun i => (own.map (·.2)).contains i) = true) (hcs : DC T N (relS scope sc) cold false k ifs c) (hf : DE T N (relS scope sc) cold false k elt f) (hs : (match iter with | .Set .. => false | _ => true) = true) :
    DE T N sc cold top k (.ListComp elt [⟨tg, iter, ifs, 0⟩] scope pos) (semComp (own.map (·.2)) t it c f) := fun X W F => by
  have hbk : BlkOk X.N X.env.scope scope own := by rw [F.eN, F.es]; exact blkOk_by hb
  obtain ⟨tt, ht⟩ : ∃ tt : TT, (∀ (s : Shared) (H : Hp) (C : Addr) (cl : List (Str × Addr)) (fp : List Addr), PTs (X.blk s H scope (compEnvC scope cl C X.env) fp) ifs tt) ∧ ∀ σ H Q, tB T.K T.mg WF c σ H Q → tt σ H Q := by
    refine ⟨tB T.K T.mg WF c, fun s H C cl fp => ?_, fun _ _ _ h => h⟩
    obtain ⟨t', h1, h2⟩ := hcs _ _ (F.blk s H scope C cl fp)
    exact ⟨fun pins s σ H Q I q => h1.run pins s σ H Q I (h2 σ H Q q)⟩
  refine PEimp (pe_lc (F.cal hc).1 (by rw [F.eN]; exact F.nd) (hi X W F) hbk (fun s H C cl fp => pg_of (F.blk s H scope C cl fp) hc (fun x hx hl => ?_) tg t htg) ht.1 (fun s H C cl fp => hf _ _ (F.blk s H scope C cl fp)) (fun x => ?_)) fun σ H Q h => comp_imp ht.2 (fun i hi => ?_) h
  · unfold isLoc at hx
    cases e : scope.names.lookup x with
    | none => rw [e] at hx; cases hx
    | some z =>
      rw [e] at hx
      cases z with
      | «local» => exact .inr (lookup_relS_keep (by intro z; cases z) e)
      | cell => exact .inl (by show (scope.names.lookup x == some .cell) = true; rw [e]; rfl)
      | _ => cases hx
  · cases iter <;> first | rfl | cases hs
  · have := List.all_eq_true.mp hsub i hi
    simpa using this
end
end EV
end
section
set_option Elab.async false
set_option linter.all false
set_option maxRecDepth 100000
set_option autoImplicit false
/-! EV9: statements -/
namespace EV
open PySem PySem.Spec PyProof.Rows L2

inductive SRe where
  | nx (s : Sg) | rt (r : R) (s : Sg) | bk (s : Sg) | ct (s : Sg) | ex (x : Xc) (s : Sg) | bad
abbrev SemS := Sg → SRe
/-- the parameters that are never stored stand -/
def Pin (nr : List Nat) (σ0 σ : Sl) : Prop := ∀ i ∈ nr, σ[i]? = σ0[i]?
theorem Pin.refl (nr : List Nat) (σ : Sl) : Pin nr σ σ := fun _ _ => rfl
def OutS (K : PySem.W.Frag) (mg : Str → Option Value) (W : WX) (nr : List Nat) (σ0 : Sl) (Φ0 H0 : Hp) (A0 : Addr → Prop) (res : SRe) (De : Ends) : Prop :=
  match res with
  | .nx env' => ∀ σ' Φ' H', Good K Φ' H' env' σ' → Pin nr σ0 σ' → Pres Φ0 H0 A0 Φ' H' (Ow env' σ') → De.nx σ' H'
  | .rt r env' => ∀ v σ' Φ' H', Good K Φ' H' env' σ' → Pin nr σ0 σ' → RR K Φ' H' env' σ' v r → r.last = true ∨ (∃ o, r = .own o) → Pres Φ0 H0 A0 Φ' H' (fun b => Ow env' σ' b ∨ RO v b r) → De.rt v H'
  | .bk env' => ∀ σ' Φ' H', Good K Φ' H' env' σ' → Pin nr σ0 σ' → Pres Φ0 H0 A0 Φ' H' (Ow env' σ') → De.bk σ' H'
  | .ct env' => ∀ σ' Φ' H', Good K Φ' H' env' σ' → Pin nr σ0 σ' → Pres Φ0 H0 A0 Φ' H' (Ow env' σ') → De.ct σ' H'
  | .ex x env' => ∀ σ' Φ' H' cls d, Good K Φ' H' env' σ' → Pin nr σ0 σ' → XcR K mg Φ' x cls d → Pres Φ0 H0 A0 Φ' H' (Ow env' σ') → W cls d σ' H'
  | .bad => False
def tS (K : PySem.W.Frag) (mg : Str → Option Value) (W : WX) (nr : List Nat) (σ0 : Sl) (f : SemS) : TS := fun De σ H => ∃ Φ env, Good K Φ H env σ ∧ Pin nr σ0 σ ∧ OutS K mg W nr σ0 Φ H (Ow env σ) (f env) De
def DS (T : Tx) (N : List Str) (sc : Scope) (cold : Bool) (nr : List Nat) (k : Nat) (st : Stmt) (f : SemS) : Prop := ∀ X W σ0, Fx T N sc cold true k X W → PS X st (tS T.K T.mg W nr σ0 f)
def DSs (T : Tx) (N : List Str) (sc : Scope) (cold : Bool) (nr : List Nat) (k : Nat) (st : List Stmt) (f : SemS) : Prop := ∀ X W σ0, Fx T N sc cold true k X W → PSs X st (tS T.K T.mg W nr σ0 f)
section
variable {K : PySem.W.Frag} {mg : Str → Option Value} {W : WX} {nr : List Nat} {σ0 σ : Sl} {Φ0 H0 Φ H : Hp} {A0 : Addr → Prop} {env : Sg}
theorem OutS.later {Φ1 H1 : Hp} {A1 : Addr → Prop} {res : SRe} {De : Ends} (p : Pres Φ0 H0 A0 Φ1 H1 A1) (h : OutS K mg W nr σ0 Φ0 H0 A0 res De) : OutS K mg W nr σ0 Φ1 H1 A1 res De := by
  cases res with
  | nx s => exact fun σ' Φ' H' g pn q => h σ' Φ' H' g pn (p.trans q)
  | rt r s => exact fun v σ' Φ' H' g pn rr l q => h v σ' Φ' H' g pn rr l (p.trans q)
  | bk s => exact fun σ' Φ' H' g pn q => h σ' Φ' H' g pn (p.trans q)
  | ct s => exact fun σ' Φ' H' g pn q => h σ' Φ' H' g pn (p.trans q)
  | ex x s => exact fun σ' Φ' H' cls d g pn xr q => h σ' Φ' H' cls d g pn xr (p.trans q)
  | bad => exact h
/-- an expression first -/
def eThen (res : Re R) (g : R → Sg → SRe) : SRe := match res with
  | .ok r s => g r s
  | .ex x s => .ex x s
  | .bad => .bad
theorem Out.thenS {res : Re R} {g : R → Sg → SRe} {De : Ends} (pn : Pin nr σ0 σ) (h : OutS K mg W nr σ0 Φ0 H0 A0 (eThen res g) De) :
    Out K mg W σ Φ0 H0 A0 res (fun v H' => ∃ r env', res = .ok r env' ∧ Mid K σ Φ0 H0 A0 r env' v H' fun _ => OutS K mg W nr σ0 Φ0 H0 A0 (g r env') De) := by
  cases res with
  | ok r s => exact fun v Φ' H' g' r' q => ⟨r, s, rfl, Φ', g', r', q, h⟩
  | ex x s => exact fun Φ' H' cls d g' xr q => h σ Φ' H' cls d g' pn xr q
  | bad => exact h
def bThen (res : Re Bool) (g : Bool → Sg → SRe) : SRe := match res with
  | .ok r s => g r s
  | .ex x s => .ex x s
  | .bad => .bad
theorem OutB.thenS {res : Re Bool} {g : Bool → Sg → SRe} {De : Ends} (pn : Pin nr σ0 σ) (h : OutS K mg W nr σ0 Φ0 H0 A0 (bThen res g) De) :
    OutB K mg W σ Φ0 H0 A0 res (fun b H' => ∃ Φ' env', Good K Φ' H' env' σ ∧ Pres Φ0 H0 A0 Φ' H' (Ow env' σ) ∧ OutS K mg W nr σ0 Φ0 H0 A0 (g b env') De) := by
  cases res with
  | ok r s => exact fun Φ' H' g' q => ⟨Φ', s, g', q, h⟩
  | ex x s => exact fun Φ' H' cls d g' xr q => h σ Φ' H' cls d g' pn xr q
  | bad => exact h
def iThen (res : Re (List D)) (g : List D → Sg → SRe) : SRe := match res with
  | .ok r s => g r s
  | .ex x s => .ex x s
  | .bad => .bad
theorem OutI.thenS {res : Re (List D)} {g : List D → Sg → SRe} {De : Ends} (pn : Pin nr σ0 σ) (h : OutS K mg W nr σ0 Φ0 H0 A0 (iThen res g) De) :
    OutI K mg W σ Φ0 H0 A0 res (fun J H' => ∃ ds Φ' env', Good K Φ' H' env' σ ∧ WalkD K J Φ' H' ds ∧ Pres Φ0 H0 A0 Φ' H' (Ow env' σ) ∧ OutS K mg W nr σ0 Φ0 H0 A0 (g ds env') De) := by
  cases res with
  | ok r s => exact fun J Φ' H' g' wk q => ⟨r, Φ', s, g', wk, q, h⟩
  | ex x s => exact fun Φ' H' cls d g' xr q => h σ Φ' H' cls d g' pn xr q
  | bad => exact h
end
/-! ### blocks -/
def semNx : SemS := fun s => .nx s
def semSeqS (f g : SemS) : SemS := fun s => match f s with
  | .nx s1 => g s1
  | r => r
section
variable {T : Tx} {N : List Str} {sc : Scope} {cold : Bool} {nr : List Nat} {k : Nat} {X : Cx} {W : WX}
theorem dss_nil : DSs T N sc cold nr k [] semNx := fun X W σ0 F => PSsimp pss_nil fun De σ H ⟨Φ, env, g, pn, o⟩ => o σ Φ H g pn (Pres.refl _ _ _)
theorem dss_cons {st : Stmt} {r : List Stmt} {f g : SemS} (h : DS T N sc cold nr k st f) (h' : DSs T N sc cold nr k r g) : DSs T N sc cold nr k (st :: r) (semSeqS f g) := fun X W σ0 F =>
  PSsimp (pss_cons (h X W σ0 F) (h' X W σ0 F)) fun De σ H ⟨Φ, env, g0, pn, o⟩ => ⟨Φ, env, g0, pn, by
    unfold semSeqS at o
    cases e : f env with
    | nx s =>
      rw [e] at o
      exact fun σ' Φ' H' g' pn' q => ⟨Φ', s, g', pn', o.later q⟩
    | rt r s => rw [e] at o; exact o
    | bk s => rw [e] at o; exact o
    | ct s => rw [e] at o; exact o
    | ex x s => rw [e] at o; exact o
    | bad => rw [e] at o; exact o⟩
theorem ds_pass {pos : Pos} : DS T N sc cold nr k (.Pass pos) semNx := fun X W σ0 F => PSimp ps_pass fun De σ H ⟨Φ, env, g, pn, o⟩ => o σ Φ H g pn (Pres.refl _ _ _)
theorem ds_break {pos : Pos} : DS T N sc cold nr k (.Break pos) (fun s => .bk s) := fun X W σ0 F => PSimp ps_break fun De σ H ⟨Φ, env, g, pn, o⟩ => o σ Φ H g pn (Pres.refl _ _ _)
theorem ds_continue {pos : Pos} : DS T N sc cold nr k (.Continue pos) (fun s => .ct s) := fun X W σ0 F => PSimp ps_continue fun De σ H ⟨Φ, env, g, pn, o⟩ => o σ Φ H g pn (Pres.refl _ _ _)
/-- a value that is no comprehension -/
def noComp : Expr → Bool
  | .ListComp .. => false
  | .SetComp .. => false
  | .DictComp .. => false
  | _ => true
theorem swaps_no {e : Expr} {t : Option Expr} {l : Nat} {env : PySem.Env} (h : noComp e = true) : swapsWith e t l env = pure false := by
  cases e <;> first | rfl | cases h
def semExpr (f : Sem) : SemS := fun s => eThen (f s) fun _ s1 => .nx s1
theorem ds_expr {e : Expr} {pos : Pos} {f : Sem} (h : DE T N sc cold true k e f) (hs : noComp e = true) : DS T N sc cold nr k (.Expr e pos) (semExpr f) := fun X W σ0 F =>
  PSimp (ps_expr (h X W F) (swaps_no hs)) fun De σ H ⟨Φ, env, g, pn, o⟩ => ⟨Φ, env, g, (Out.thenS pn o).mono fun v H1 ⟨r, env1, e1, Φ1, g1, r1, p1, o1⟩ => o1 σ Φ1 H1 g1 pn (p1.some fun b h => .inl h)⟩
def semRet (f : Sem) : SemS := fun s => eThen (f s) fun r s1 => .rt r s1
theorem ds_ret {e : Expr} {pos : Pos} {f : Sem} (h : DE T N sc cold true k e f) : DS T N sc cold nr k (.Return (some e) pos) (semRet f) := fun X W σ0 F =>
  PSimp (ps_ret (h X W F)) fun De σ H ⟨Φ, env, g, pn, o⟩ => ⟨Φ, env, g, (Out.thenS pn o).mono fun v H1 ⟨r, env1, e1, Φ1, g1, r1, p1, o1⟩ => o1 v σ Φ1 H1 g1 pn r1 (by cases r <;> first | exact .inl rfl | exact .inr ⟨_, rfl⟩) p1⟩
def semRetN : SemS := fun s => .rt (.val .none) s
theorem ds_retN {pos : Pos} : DS T N sc cold nr k (.Return none pos) semRetN := fun X W σ0 F => PSimp ps_retN fun De σ H ⟨Φ, env, g, pn, o⟩ => o .non σ Φ H g pn (.non) (.inl rfl) ((Pres.refl _ _ _).some fun b h => h.elim id False.elim)
def semIfS (c : SemB) (f g : SemS) : SemS := fun s => bThen (c s) fun b s1 => if b = true then f s1 else g s1
theorem ds_if {c : Expr} {a b : List Stmt} {pos : Pos} {fc : SemB} {f g : SemS} (hc : DT T N sc cold true k c fc) (ha : DSs T N sc cold nr k a f) (hb : DSs T N sc cold nr k b g) : DS T N sc cold nr k (.If c a b pos) (semIfS fc f g) := fun X W σ0 F =>
  PSimp (ps_if (hc X W F) (ha X W σ0 F) (hb X W σ0 F)) fun De σ H ⟨Φ, env, g0, pn, o⟩ => ⟨Φ, env, g0, (OutB.thenS pn o).mono fun b H1 ⟨Φ1, env1, g1, p1, o1⟩ => by
    cases b with
    | true => rw [if_pos rfl] at o1 ⊢; exact ⟨Φ1, env1, g1, pn, o1.later p1⟩
    | false => rw [if_neg Bool.false_ne_true] at o1 ⊢; exact ⟨Φ1, env1, g1, pn, o1.later p1⟩⟩

/-! ### stores -/
/-- name = value -/
def SV.of : R → SV
  | .val d => .val d
  | .own o => .own o
  | .slot _ => .un
def semSet (i : Nat) (f : Sem) : SemS := fun s => eThen (f s) fun r s1 => if i < s1.length then match r with
    | .slot _ => .bad
    | r => .nx (s1.set i (SV.of r))
  else .bad
theorem Good.setOwn {K : PySem.W.Frag} {Φ H : Hp} {env : Sg} {σ : Sl} {i : Nat} {a : Addr} {o : O} (g : Good K Φ H env σ) (h : i < env.length) (n : Φ a = none) (w : OwnR K Φ H a o) (no : ¬ Ow env σ a) :
    Good K Φ H (env.set i (.own o)) (σ.set i (some (.ref a))) ∧ ∀ b, Ow (env.set i (.own o)) (σ.set i (some (.ref a))) b → Ow env σ b ∨ b = a := by
  have hσ : i < σ.length := by rw [← g.er.len]; exact h
  have key : ∀ j o' b, (env.set i (.own o))[j]? = some (.own o') → (σ.set i (some (.ref a)))[j]? = some (some (.ref b)) → (j = i ∧ o' = o ∧ b = a) ∨ (j ≠ i ∧ env[j]? = some (.own o') ∧ σ[j]? = some (some (.ref b))) := fun j o' b h1 h2 => by
    by_cases hj : i = j
    · subst hj; rw [get_set_self h] at h1; rw [get_set_self hσ] at h2; cases h1; cases h2; exact .inl ⟨rfl, rfl, rfl⟩
    · rw [get_set_ne hj] at h1 h2; exact .inr ⟨Ne.symm hj, h1, h2⟩
  refine ⟨⟨g.le, by simpa using g.er.len, fun j e q => ?_, fun j o' q => ?_, fun j l o1 o2 b z1 z2 z3 z4 => ?_⟩, fun b ⟨j, o', z1, z2⟩ => ?_⟩
  · by_cases hj : i = j
    · subst hj; rw [get_set_self h] at q; cases q
    · rw [get_set_ne hj] at q; rw [get_set_ne hj]; exact g.er.vl j e q
  · by_cases hj : i = j
    · subst hj; rw [get_set_self h] at q; cases q; exact ⟨a, get_set_self hσ, n, w⟩
    · rw [get_set_ne hj] at q; rw [get_set_ne hj]; exact g.er.ow j o' q
  · rcases key j o1 b z1 z3 with ⟨e1, _, e2⟩ | ⟨e1, q1, q2⟩
    · rcases key l o2 b z2 z4 with ⟨f1, _, f2⟩ | ⟨f1, r1, r2⟩
      · exact e1.trans f1.symm
      · subst e2; exact absurd ⟨l, o2, r1, r2⟩ no
    · rcases key l o2 b z2 z4 with ⟨f1, _, f2⟩ | ⟨f1, r1, r2⟩
      · subst f2; exact absurd ⟨j, o1, q1, q2⟩ no
      · exact g.er.dj j l o1 o2 b q1 r1 q2 r2
  · rcases key j o' b z1 z2 with ⟨_, _, e⟩ | ⟨_, q1, q2⟩
    · exact .inr e
    · exact .inl ⟨j, o', q1, q2⟩
theorem Pin.set {nr : List Nat} {σ0 σ : Sl} {i : Nat} {x : Option V} (h : Pin nr σ0 σ) (n : i ∉ nr) : Pin nr σ0 (σ.set i x) := fun j hj => by
  have hij : i ≠ j := fun z => n (by rw [z]; exact hj)
  rw [get_set_ne hij]; exact h j hj
theorem set_imp {i : Nat} {f : Sem} {σ0 : Sl} (n : i ∉ nr) {K : PySem.W.Frag} {mg : Str → Option Value} {De : Ends} {σ : Sl} {H : Hp} (h : tS K mg W nr σ0 (semSet i f) De σ H) : tAsg (tR K mg W f) (gName i) De σ H := by
  obtain ⟨Φ, env, g, pn, o⟩ := h
  refine ⟨Φ, env, g, (Out.thenS pn o).mono fun v H1 ⟨r, env1, e1, Φ1, g1, r1, p1, o1⟩ => ?_⟩
  by_cases hi : i < env1.length
  · rw [if_pos hi] at o1
    cases r with
    | val d =>
      obtain ⟨g2, p2⟩ := g1.setVal hi r1
      exact o1 _ Φ1 H1 g2 (pn.set n) ((p1.plain (r := .val d) fun b h => h).trans p2)
    | own w =>
      obtain ⟨a, rfl, na, ow, no⟩ := r1
      obtain ⟨g2, sub⟩ := g1.setOwn hi na ow no
      exact o1 _ Φ1 H1 g2 (pn.set n) (p1.some fun b h => (sub b h).imp id fun e => by subst e; rfl)
    | slot j => exact o1.elim
  · rw [if_neg hi] at o1; exact o1.elim
/-- a store of a comprehension that is made in place -/
def swapB (sc : Scope) (e : Expr) (y : Str) (py : Pos) : Bool := match e with
  | .ListComp _ _ scope pos => (match sc.names.lookup y with | some .local => true | _ => false) && (py.line == pos.line) && !(scope.names.any fun (n, k) => n == y && (k == .local || k == .cell))
  | _ => false
theorem swaps_list {elt : Expr} {gs : List Comprehension} {scope : Scope} {pos py : Pos} {y : Str} {l : Nat} {env : PySem.Env} (hk : env.scope.kind = .function) (h : swapB env.scope (.ListComp elt gs scope pos) y py = false) : swapsWith (.ListComp elt gs scope pos) (some (.Name y py)) l env = pure false := by
  have hb : env.blockKind = .function := by unfold Env.blockKind; rw [hk]; rfl
  unfold swapsWith
  simp only [hb, Env.kindOf, Expr.pos]
  unfold swapB at h
  simp only at h
  cases e : env.scope.names.lookup y with
  | none => rfl
  | some z =>
    rw [e] at h
    cases z with
    | «local» =>
      have h' : ((py.line == pos.line) && !(scope.names.any fun (n, k) => n == y && (k == .local || k == .cell))) = false := by simpa using h
      show pure ((true && true && (py.line == pos.line)) && !(scope.names.any fun (n, k) => n == y && (k == .local || k == .cell))) = pure false
      rw [Bool.true_and, Bool.true_and, h']
    | _ => rfl
theorem ds_set {i : Nat} {y : Str} {py pos : Pos} {e : Expr} {f : Sem} (he : DE T N sc cold true k e f) (hN : N[i]? = some y) (hx : isLoc sc y = true) (n : i ∉ nr) (hs : noComp e = true ∨ (∃ elt gs scope pos', e = .ListComp elt gs scope pos' ∧ swapB sc e y py = false)) :
    DS T N sc cold nr k (.Assign [.Name y py] e pos) (semSet i f) := fun X W σ0 F => by
  refine PSimp (ps_set (X := X) (by rw [F.eN]; exact F.nd) (by rw [F.eN]; exact hN) (by rw [F.es]; exact loc_of hx) (he X W F) ?_ (.inl (F.fn rfl y))) fun De σ H h => set_imp n h
  rcases hs with hs | ⟨elt, gs, scope, pos', rfl, hs⟩
  · exact swaps_no hs
  · exact swaps_list (F.tp rfl).2.2 (by rw [F.es]; exact hs)
theorem ds_setLc {i : Nat} {y : Str} {py pos spos : Pos} {elt tg iter : Expr} {ifs : List Expr} {scope : Scope} {own : List (Str × Nat)} {t : Tg} {it : SemI} {c : SemB} {f : Sem} (hc : cold = true) (hi : DI T N sc cold true k tg iter it) (hb : blkC N sc scope own = true)
    (htg : tgOk N (relS scope sc) (isLoc scope) tg = some t) (hsub : t.slots.all (fun i => (own.map (·.2)).contains i) = true) (hcs : DC T N (relS scope sc) cold false k ifs c) (hf : DE T N (relS scope sc) cold false k elt f) (hs : (match iter with | .Set .. => false | _ => true) = true)
    (hN : N[i]? = some y) (n : i ∉ nr) (hsw : swapB sc (.ListComp elt [⟨tg, iter, ifs, 0⟩] scope pos) y py = true) :
    DS T N sc cold nr k (.Assign [.Name y py] (.ListComp elt [⟨tg, iter, ifs, 0⟩] scope pos) spos) (semSet i (semComp (own.map (·.2)) t it c f)) := fun X W σ0 F => by
  have hbk : BlkOk X.N X.env.scope scope own := by rw [F.eN, F.es]; exact blkOk_by hb
  have ht : ∀ (s : Shared) (H : Hp) (C : Addr) (cl : List (Str × Addr)) (fp : List Addr), PTs (X.blk s H scope (compEnvC scope cl C X.env) fp) ifs (tB T.K T.mg WF c) := fun s H C cl fp => by
    obtain ⟨t', h1, h2⟩ := hcs _ _ (F.blk s H scope C cl fp)
    exact ⟨fun pins s σ H Q I q => h1.run pins s σ H Q I (h2 σ H Q q)⟩
  simp only [swapB, Bool.and_eq_true, Bool.not_eq_true'] at hsw
  obtain ⟨⟨h1, h2⟩, h3⟩ := hsw
  have hloc : sc.names.lookup y = some .local := by
    cases e : sc.names.lookup y with
    | none => rw [e] at h1; cases h1
    | some z => rw [e] at h1; cases z <;> first | rfl | cases h1
  refine PSimp (ps_setLc (X := X) (i := i) (F.cal hc).1 (by rw [F.eN]; exact F.nd) (by rw [F.eN]; exact hN) (by rw [F.es]; exact hloc) (sw_true (F.tp rfl).2.2 (by rw [F.es]; exact hloc) h2 h3) (hi X W F) hbk (fun s H C cl fp => pg_of (F.blk s H scope C cl fp) hc (fun x hx hl => ?_) tg t htg) ht (fun s H C cl fp => hf _ _ (F.blk s H scope C cl fp)) (fun x => ?_)) fun De σ H h => ?_
  · unfold isLoc at hx
    cases e : scope.names.lookup x with
    | none => rw [e] at hx; cases hx
    | some z =>
      rw [e] at hx
      cases z with
      | «local» => exact .inr (lookup_relS_keep (by intro z; cases z) e)
      | cell => exact .inl (by show (scope.names.lookup x == some .cell) = true; rw [e]; rfl)
      | _ => cases hx
  · cases iter <;> first | rfl | cases hs
  · have h' := set_imp n h
    exact comp_imp (fun _ _ _ h => h) (fun i hi => by have := List.all_eq_true.mp hsub i hi; simpa using this) h'
end
end EV
end
section
set_option Elab.async false
set_option linter.all false
set_option maxRecDepth 100000
set_option autoImplicit false
/-! EV10: stores to targets, loops, mutation -/
namespace EV
open PySem PySem.Spec PyProof.Rows L2
section
variable {T : Tx} {N : List Str} {sc : Scope} {cold : Bool} {nr : List Nat} {k : Nat} {X : Cx} {W : WX}
theorem Pin.same {nr is : List Nat} {σ0 σ σ' : Sl} (h : Pin nr σ0 σ) (s : Same' is σ σ') (d : ∀ i ∈ is, i ∉ nr) : Pin nr σ0 σ' := fun j hj => by
  rw [s.2 j fun z => d j z hj]; exact h j hj
/-! ### target = value -/
def semAsg (t : Tg) (f : Sem) : SemS := fun s => eThen (f s) fun r s1 => match r with
  | .val d => match t.bind d s1 with
    | some s2 => .nx s2
    | none => .bad
  | _ => .bad
/-- the value of a store to several names is no display of as many -/
def noPar : Expr → Bool
  | .Tuple .. => false
  | .ListComp .. => false
  | .SetComp .. => false
  | .DictComp .. => false
  | _ => true
theorem swapped_no {tg e : Expr} {env : PySem.Env} (h : noPar e = true) : swappedStores [tg] e env = pure none := by
  cases e <;> first | (cases h; done) | (cases tg <;> rfl)
theorem swaps_sole {tg e : Expr} {l : Nat} {env : PySem.Env} (h : noPar e = true) : swapsWithSole [tg] e l env = pure false := by
  cases e <;> first | (cases h; done) | rfl
theorem ds_asg {tg e : Expr} {pos : Pos} {t : Tg} {f : Sem} (hc : cold = true) (he : DE T N sc cold true k e f) (htg : tgOk N sc (fun _ => true) tg = some t) (hn : t.slots.all (fun i => !nr.contains i) = true) (hp : noPar e = true) :
    DS T N sc cold nr k (.Assign [tg] e pos) (semAsg t f) := fun X W σ0 F =>
  PSimp (ps_asg (he X W F) (pg_of F hc (fun x _ _ => .inl (F.fn rfl x)) tg t htg) (swaps_sole hp) (swapped_no hp) (by rw [assignEach_one (tgOk_star htg)]; rfl)) fun De σ H ⟨Φ, env, g, pn, o⟩ => ⟨Φ, env, g, (Out.thenS pn o).mono fun v H1 ⟨r, env1, e1, Φ1, g1, r1, p1, o1⟩ => by
    cases r with
    | val d =>
      simp only at o1
      cases e2 : t.bind d env1 with
      | none => rw [e2] at o1; exact o1.elim
      | some s2 =>
        rw [e2] at o1
        refine ⟨Φ1, env1, d, s2, g1, r1, e2, fun σ' g' p' s' => o1 σ' Φ1 H1 g' (pn.same s' fun i hi hj => ?_) ((p1.plain (r := .val d) fun b h => h).trans p')⟩
        have := List.all_eq_true.mp hn i hi
        simp [hj] at this
    | own w => exact o1.elim
    | slot j => exact o1.elim⟩
/-- a, b = x, y -/
def semPar2 (i j : Nat) (fs : List Arg) : SemS := fun s => match semArgs fs s with
  | .ok [.val d, .val e] s1 => if i < s1.length ∧ j < s1.length then .nx ((s1.set i (.val d)).set j (.val e)) else .bad
  | .ok _ _ => .bad
  | .ex x s1 => .ex x s1
  | .bad => .bad
theorem ds_par2 {i j : Nat} {x y : Str} {a b : Expr} {px py pt pos : Pos} {kt k2 : Nat} {pt2 : Pos} {fs : List Arg} (hc : cold = true) (hi : N[i]? = some x) (hj : N[j]? = some y) (hij : i ≠ j) (hx : sc.names.lookup x = some .local) (hy : sc.names.lookup y = some .local) (ha : DA T N sc cold true k [a, b] fs)
    (hl : (x == y) = false) (hp : (py.line == px.line) = true) (hf : ([a, b].all (foldedForSure 8)) = false) (hca : ([a, b].all (constantsAlone 8)) = false) (hsa : noStar a = true) (hsb : noStar b = true) (ni : i ∉ nr) (nj : j ∉ nr) :
    DS T N sc cold nr k (.Assign [.Tuple [.Name x px, .Name y py] kt pt] (.Tuple [a, b] k2 pt2) pos) (semPar2 i j fs) := fun X W σ0 F => by
  have hkx : X.env.kindOf x = some .local := by show X.env.scope.names.lookup x = _; rw [F.es]; exact hx
  have hky : X.env.kindOf y = some .local := by show X.env.scope.names.lookup y = _; rw [F.es]; exact hy
  have hb : X.env.blockKind = .function := by unfold Env.blockKind; rw [(F.tp rfl).2.2]; rfl
  refine PSimp (ps_par (X := X) (i := i) (j := j) (F.cal hc).1 (by rw [F.eN]; exact F.nd) (by rw [F.eN]; exact hi) (by rw [F.eN]; exact hj) hij (by rw [F.es]; exact hx) (by rw [F.es]; exact hy) (ha X W F) ?_ rfl) fun De σ H ⟨Φ, env, g, pn, o⟩ => ⟨Φ, env, g, ?_⟩
  · unfold swappedStores
    have hpx : (px.line == px.line) = true := beq_self_eq_true _
    have hxy : (y == x) = false := by
      rw [Bool.eq_false_iff] at hl ⊢
      exact fun z => hl (by rw [beq_iff_eq] at z ⊢; exact z.symm)
    simp [hb, hf, hca, hkx, hky, Expr.pos, hp, hl, hxy, List.eraseDups_cons, List.filterMap]
    intro h
    exfalso
    rcases h with h | h
    · revert h hsa; cases a <;> intro hs h <;> first | (cases hs; done) | (cases h; done)
    · revert h hsb; cases b <;> intro hs h <;> first | (cases hs; done) | (cases h; done)
  · unfold semPar2 at o
    cases e : semArgs fs env with
    | ex x s => rw [e] at o; exact fun Φ' H' cls d g' xr q => o σ Φ' H' cls d g' pn xr q
    | bad => rw [e] at o; exact o.elim
    | ok rs s1 =>
      rw [e] at o
      intro vs Φ1 H1 g1 r1 p1
      match rs, o, r1 with
      | [.val d, .val e], o, r1 =>
        simp only at o
        split at o
        · rename_i hh
          cases r1 with
          | cons ra _ r1 =>
            cases r1 with
            | cons rb _ r1 =>
              cases r1
              obtain ⟨g2, p2⟩ := g1.setVal hh.1 ra
              obtain ⟨g3, p3⟩ := g2.setVal (i := j) (by simpa using hh.2) rb
              exact ⟨_, _, rfl, o _ Φ1 H1 g3 ((pn.set ni).set nj) (p1.trans (p2.trans p3))⟩
        · exact o.elim
      | [], o, _ => exact o.elim
      | [_], o, _ => simp at o; exact o.elim
      | .val d :: .own _ :: [], o, _ => exact o.elim
      | .val d :: .slot _ :: [], o, _ => exact o.elim
      | .own _ :: _ :: [], o, _ => exact o.elim
      | .slot _ :: _ :: [], o, _ => exact o.elim
      | _ :: _ :: _ :: _, o, _ => simp at o; exact o.elim

/-! ### for -/
def forLoop (t : Tg) (b : SemS) : List D → Sg → SRe
  | [], s => .nx s
  | d :: ds, s => match t.bind d s with
    | none => .bad
    | some s1 => match b s1 with
      | .nx s2 => forLoop t b ds s2
      | .ct s2 => forLoop t b ds s2
      | .bk s2 => .nx s2
      | r => r
def semFor (t : Tg) (it : SemI) (b : SemS) : SemS := fun s => iThen (it s) fun ds s1 => forLoop t b ds s1
theorem for_imp {t : Tg} {it : SemI} {b : SemS} {σ0 : Sl} (hn : ∀ i ∈ t.slots, i ∉ nr) {K : PySem.W.Frag} {mg : Str → Option Value} {De : Ends} {σ : Sl} {H : Hp} (h : tS K mg W nr σ0 (semFor t it b) De σ H) :
    tFor (tI K mg W it) (tTg K t) (tS K mg W nr σ0 b) De σ H := by
  obtain ⟨Φ, env, g0, pn, o⟩ := h
  refine ⟨Φ, env, g0, ?_⟩
  have o' : OutS K mg W nr σ0 Φ H (Ow env σ) (iThen (it env) fun ds s1 => forLoop t b ds s1) De := o
  cases e : it env with
  | ex x s => rw [e] at o'; exact OutI.thenS pn o'
  | bad => rw [e] at o'; exact o'.elim
  | ok ds env1 =>
    rw [e] at o'
    have o1 : OutS K mg W nr σ0 Φ H (Ow env σ) (forLoop t b ds env1) De := o'
    intro J Φ1 H1 g1 wk p1
    obtain ⟨hz, wk⟩ := wk
    refine ⟨fun i m σi Hi => m = ds.length - i ∧ i ≤ ds.length ∧ ∃ Φi envi, Good K Φi Hi envi σi ∧ Pin nr σ0 σi ∧ Pres Φ H (Ow env σ) Φi Hi (Ow envi σi) ∧ Le Φ1 Φi ∧ OutS K mg W nr σ0 Φ H (Ow env σ) (forLoop t b (ds.drop i) envi) De, ⟨ds.length, by simp, Nat.zero_le _, Φ1, env1, g1, pn, p1, Le.refl _, by simpa using o1⟩, ?_⟩
    rintro i m σi Hi ⟨rfl, hi, Φi, envi, gi, pni, pi, li, oi⟩
    obtain ⟨st, gy⟩ := wk Φi Hi li gi.le
    by_cases hlt : i < ds.length
    · right
      obtain ⟨d, hd⟩ : ∃ d, ds[i]? = some d := ⟨ds[i], by simp [hlt]⟩
      obtain ⟨go, yl⟩ := gy i d hd
      have hdrop : ds.drop i = d :: ds.drop (i + 1) := by
        rw [List.drop_eq_getElem_cons hlt]
        have : ds[i] = d := by rw [List.getElem?_eq_getElem hlt] at hd; exact Option.some.inj hd
        rw [this]
      rw [hdrop] at oi
      simp only [forLoop] at oi
      refine ⟨go, fun σ' H' => ds.length - (i + 1) < ds.length - i ∧ i + 1 ≤ ds.length ∧ ∃ Φi envi, Good K Φi H' envi σ' ∧ Pin nr σ0 σ' ∧ Pres Φ H (Ow env σ) Φi H' (Ow envi σ') ∧ Le Φ1 Φi ∧ OutS K mg W nr σ0 Φ H (Ow env σ) (forLoop t b (ds.drop (i + 1)) envi) De, fun σ' H' h => ⟨_, h.1, rfl, h.2⟩, fun x H2 y => ?_⟩
      obtain ⟨Φ2, l1, l2, l3, l4, rx⟩ := yl x H2 y
      obtain ⟨g2, p2⟩ := gi.grow l1 l2 l3 l4
      cases e1 : t.bind d envi with
      | none => rw [e1] at oi; exact oi.elim
      | some s1 =>
        rw [e1] at oi
        refine ⟨Φ2, envi, d, s1, g2, rx, e1, fun σ2 gs ps same => ?_⟩
        have pb := pi.trans (p2.trans ps)
        have pn2 := pni.same same hn
        refine ⟨Φ2, s1, gs, pn2, ?_⟩
        simp only at oi
        cases e2 : b s1 with
        | nx s2 => rw [e2] at oi; exact fun σ' Φ' H' g' pn' q => ⟨by omega, hlt, Φ', s2, g', pn', pb.trans q, li.trans (l1.trans q.ff), oi⟩
        | ct s2 => rw [e2] at oi; exact fun σ' Φ' H' g' pn' q => ⟨by omega, hlt, Φ', s2, g', pn', pb.trans q, li.trans (l1.trans q.ff), oi⟩
        | bk s2 => rw [e2] at oi; exact fun σ' Φ' H' g' pn' q => oi σ' Φ' H' g' pn' (pb.trans q)
        | rt r s2 => rw [e2] at oi; exact fun v σ' Φ' H' g' pn' rr hl q => oi v σ' Φ' H' g' pn' rr hl (pb.trans q)
        | ex x s2 => rw [e2] at oi; exact fun σ' Φ' H' cls dd g' pn' xr q => oi σ' Φ' H' cls dd g' pn' xr (pb.trans q)
        | bad => rw [e2] at oi; exact oi.elim
    · left
      have : i = ds.length := by omega
      subst this
      rw [List.drop_length] at oi
      exact ⟨st, oi σi Φi Hi gi pni pi⟩
theorem ds_for {tg iter : Expr} {body : List Stmt} {pos : Pos} {t : Tg} {it : SemI} {b : SemS} (hc : cold = true) (hi : DI T N sc cold true k tg iter it) (htg : tgOk N sc (fun _ => true) tg = some t) (hn : t.slots.all (fun i => !nr.contains i) = true) (hb : DSs T N sc cold nr k body b) (hs : (match iter with | .Set .. => false | _ => true) = true) :
    DS T N sc cold nr k (.For tg iter body [] pos) (semFor t it b) := fun X W σ0 F =>
  PSimp (ps_for F.ps (F.cal hc).1 (hi X W F) (pg_of F hc (fun x _ _ => .inl (F.fn rfl x)) tg t htg) (hb X W σ0 F) (fun x => by cases iter <;> first | rfl | cases hs)) fun De σ H h => for_imp (fun i hi hj => by
    have := List.all_eq_true.mp hn i hi
    simp [hj] at this) h
/-! ### while -/
def whileLoop (c : SemB) (b : SemS) : Nat → Sg → SRe
  | 0, _ => .bad
  | n + 1, s => bThen (c s) fun x s1 => if x = true then match b s1 with
      | .nx s2 => whileLoop c b n s2
      | .ct s2 => whileLoop c b n s2
      | .bk s2 => .nx s2
      | r => r
    else .nx s1
theorem while_imp {c : SemB} {b : SemS} {n : Nat} {σ0 : Sl} {K : PySem.W.Frag} {mg : Str → Option Value} {De : Ends} {σ : Sl} {H : Hp} (h : tS K mg W nr σ0 (whileLoop c b n) De σ H) :
    tWhile (tB K mg W c) (tS K mg W nr σ0 b) De σ H := by
  obtain ⟨Φ, env, g0, pn, o⟩ := h
  refine ⟨fun m σi Hi => ∃ Φi envi, Good K Φi Hi envi σi ∧ Pin nr σ0 σi ∧ Pres Φ H (Ow env σ) Φi Hi (Ow envi σi) ∧ OutS K mg W nr σ0 Φ H (Ow env σ) (whileLoop c b m envi) De, ⟨n, Φ, env, g0, pn, Pres.refl _ _ _, o⟩, ?_⟩
  rintro m σi Hi ⟨Φi, envi, gi, pni, pi, oi⟩
  cases m with
  | zero => exact oi.elim
  | succ m =>
    simp only [whileLoop] at oi
    refine ⟨Φi, envi, gi, ((OutB.thenS pni oi).later pi).mono fun x H1 ⟨Φ1, env1, g1, p1, o1⟩ => ?_⟩
    cases x with
    | true =>
      rw [if_pos rfl] at o1 ⊢
      refine ⟨fun σ' H' => ∃ Φi envi, Good K Φi H' envi σ' ∧ Pin nr σ0 σ' ∧ Pres Φ H (Ow env σ) Φi H' (Ow envi σ') ∧ OutS K mg W nr σ0 Φ H (Ow env σ) (whileLoop c b m envi) De, fun σ' H' h => ⟨m, Nat.lt_succ_self _, h⟩, Φ1, env1, g1, pni, ?_⟩
      cases e2 : b env1 with
      | nx s2 => rw [e2] at o1; exact fun σ' Φ' H' g' pn' q => ⟨Φ', s2, g', pn', p1.trans q, o1⟩
      | ct s2 => rw [e2] at o1; exact fun σ' Φ' H' g' pn' q => ⟨Φ', s2, g', pn', p1.trans q, o1⟩
      | bk s2 => rw [e2] at o1; exact fun σ' Φ' H' g' pn' q => o1 σ' Φ' H' g' pn' (p1.trans q)
      | rt r s2 => rw [e2] at o1; exact fun v σ' Φ' H' g' pn' rr hl q => o1 v σ' Φ' H' g' pn' rr hl (p1.trans q)
      | ex x s2 => rw [e2] at o1; exact fun σ' Φ' H' cls dd g' pn' xr q => o1 σ' Φ' H' cls dd g' pn' xr (p1.trans q)
      | bad => rw [e2] at o1; exact o1.elim
    | false => rw [if_neg Bool.false_ne_true] at o1 ⊢; exact o1 σi Φ1 H1 g1 pni p1
/-- the turns that a while may take -/
def whileMost : Nat := 1000000000
theorem ds_while {c : Expr} {body : List Stmt} {pos : Pos} {fc : SemB} {b : SemS} (hcs : DT T N sc cold true k c fc) (hb : DSs T N sc cold nr k body b) : DS T N sc cold nr k (.While c body [] pos) (whileLoop fc b whileMost) := fun X W σ0 F =>
  PSimp (ps_while F.ps (hcs X W F) (hb X W σ0 F)) fun De σ H h => while_imp h
/-! ### name op= value (ints) -/
def pAug (op : Operator) : D → D → Option D
  | .int i, .int j => match op with
    | .Add => some (.int (i + j))
    | .Sub => some (.int (i - j))
    | _ => none
  | _, _ => none
def semAug (op : Operator) (i : Nat) (f : Sem) : SemS := fun s => match s[i]? with
  | some (.val d) => eThen (f s) fun r s1 => match r with
    | .val e => match pAug op d e with
      | some z => if i < s1.length then .nx (s1.set i (.val z)) else .bad
      | none => .bad
    | _ => .bad
  | _ => .bad
theorem ds_aug {op : Operator} {i : Nat} {y : Str} {py pos : Pos} {e : Expr} {f : Sem} (he : DE T N sc cold true k e f) (hN : N[i]? = some y) (hx : isLoc sc y = true) (n : i ∉ nr) (hop : op = .Add ∨ op = .Sub) :
    DS T N sc cold nr k (.AugAssign (.Name y py) op e pos) (semAug op i f) := fun X W σ0 F => by
  have key : ∀ {g : Int → Int → Int}, PIp X op (ipI g) → (∀ i j z, pAug op (.int i) (.int j) = some z → z = .int (g i j)) → PS X (.AugAssign (.Name y py) op e pos) (tS T.K T.mg W nr σ0 (semAug op i f)) := fun {g} hp hz => by
    refine PSimp (ps_aug (X := X) (i := i) (by rw [F.eN]; exact F.nd) (by rw [F.eN]; exact hN) (by rw [F.es]; exact loc_of hx) (he X W F) hp (.inl (F.fn rfl y))) fun De σ H ⟨Φ, env, g0, pn, o⟩ => ?_
    unfold semAug at o
    cases e0 : env[i]? with
    | none => rw [e0] at o; exact o.elim
    | some z =>
      rw [e0] at o
      cases z with
      | val d =>
        obtain ⟨v, q, rv⟩ := g0.er.vl i d e0
        refine ⟨v, q, Φ, env, g0, (Out.thenS pn o).mono fun u H1 ⟨r, env1, e1, Φ1, g1, r1, p1, o1⟩ => ?_⟩
        cases r with
        | val d2 =>
          simp only at o1
          cases e2 : pAug op d d2 with
          | none => rw [e2] at o1; exact o1.elim
          | some z =>
            rw [e2] at o1
            simp only at o1
            split at o1
            · rename_i hi
              cases d with
              | int a =>
                cases d2 with
                | int b =>
                  have := hz a b z e2
                  subst this
                  cases rv
                  cases (show Rp T.K Φ1 u (.int b) from r1)
                  obtain ⟨g2, p2⟩ := g1.setVal hi (.int (g a b))
                  exact ⟨a, b, rfl, rfl, o1 _ Φ1 H1 g2 (pn.set n) ((p1.plain (r := .val (.int b)) fun b h => h).trans p2)⟩
                | _ => cases e2
              | _ => cases e2
            · exact o1.elim
        | own w => exact o1.elim
        | slot j => exact o1.elim
      | un => exact o.elim
      | own w => exact o.elim
  rcases hop with rfl | rfl
  · exact key ip_add fun i j z h => by simp only [pAug, Option.some.injEq] at h; exact h.symm
  · exact key ip_sub fun i j z h => by simp only [pAug, Option.some.injEq] at h; exact h.symm

/-! ### the thing of a slot is changed -/
theorem Good.change {K : PySem.W.Frag} {Φ H H' : Hp} {env : Sg} {σ : Sl} {i : Nat} {a : Addr} {o o' : O} (g : Good K Φ H env σ) (e : env[i]? = some (.own o)) (es : σ[i]? = some (some (.ref a))) (k : ∀ b, b ≠ a → H' b = H b) (w : OwnR K Φ H' a o') :
    Good K Φ H' (env.set i (.own o')) σ ∧ Pres Φ H (Ow env σ) Φ H' (Ow (env.set i (.own o')) σ) := by
  have hi := g.er.lt e
  obtain ⟨a', q, n, w0⟩ := g.er.ow i o e
  rw [es] at q; cases q
  have key : ∀ j x, (env.set i (.own o'))[j]? = some (.own x) → ∃ x', env[j]? = some (.own x') ∧ (j = i ∧ x = o' ∨ j ≠ i ∧ x = x') := fun j x h => by
    by_cases hj : i = j
    · subst hj; rw [get_set_self hi] at h; cases h; exact ⟨o, e, .inl ⟨rfl, rfl⟩⟩
    · rw [get_set_ne hj] at h; exact ⟨x, h, .inr ⟨Ne.symm hj, rfl⟩⟩
  refine ⟨⟨fun b x h => ?_, by simpa using g.er.len, fun j d h => ?_, fun j x h => ?_, fun j l o1 o2 b z1 z2 z3 z4 => ?_⟩, Le.refl _, fun b x h no => ?_, fun b ⟨j, x, z1, z2⟩ => ?_, fun _ z => .inl z⟩
  · rw [k b (ne_of_none h n)]; exact g.le b x h
  · by_cases hj : i = j
    · subst hj; rw [get_set_self hi] at h; cases h
    · rw [get_set_ne hj] at h; exact g.er.vl j d h
  · obtain ⟨x', h1, h2⟩ := key j x h
    obtain ⟨b, q1, q2, q3⟩ := g.er.ow j x' h1
    rcases h2 with ⟨rfl, rfl⟩ | ⟨h2, rfl⟩
    · rw [es] at q1; cases q1; exact ⟨a, es, n, w⟩
    · refine ⟨b, q1, q2, q3.mono (Le.refl _) (k b ?_)⟩
      rintro rfl; exact h2 (g.er.dj j i x o _ h1 e q1 es)
  · obtain ⟨y1, h1, _⟩ := key j o1 z1
    obtain ⟨y2, h2, _⟩ := key l o2 z2
    exact g.er.dj j l y1 y2 b h1 h2 z3 z4
  · rw [k b]
    · exact h
    · rintro rfl; exact no ⟨i, o, e, es⟩
  · obtain ⟨y1, h1, _⟩ := key j x z1
    exact .inl ⟨j, y1, h1, z2⟩
/-- a method that changes its thing: what it hands back, what the thing becomes -/
def rMut (K : PySem.W.Frag) (m : O → List D → Option (D × O)) : V → List V → Hp → VK → Prop := fun x vs H Q => ∃ Φ a o ds r o', Le Φ H ∧ x = .ref a ∧ Φ a = none ∧ OwnR K Φ H a o ∧ RpA K Φ vs ds ∧ m o ds = some (r, o') ∧
  ∀ v H', (∀ b, b ≠ a → H' b = H b) → OwnR K Φ H' a o' → Rp K Φ v r → Q v H'
def kindO : O → String
  | .lst _ => "list"
  | .dic _ => "dict"
def semMut (ty : String) (m : O → List D → Option (D × O)) (i : Nat) (fs : List Arg) : Sem := fun s => match s[i]? with
  | some (.own o0) => if kindO o0 = ty then (semArgs fs s).bind fun rs s1 => match s1[i]? with
    | some (.own o) => match (valsOf rs).bind (m o) with
      | some (r, o') => .ok (.val r) (s1.set i (.own o'))
      | none => .bad
    | _ => .bad
    else .bad
  | _ => .bad
theorem mut_of {K : PySem.W.Frag} {mg : Str → Option Value} {m : O → List D → Option (D × O)} {i : Nat} {σ : Sl} {Φ0 H0 Φ H : Hp} {A0 : Addr → Prop} {env : Sg} {rs : List R} {vs : List V} {a : Addr} {Q : VK} (g : Good K Φ H env σ) (es : σ[i]? = some (some (.ref a))) (r : RRs K Φ H env σ vs rs) (p : Pres Φ0 H0 A0 Φ H (Ow env σ))
    (o : Out K mg W σ Φ0 H0 A0 (match env[i]? with | some (.own o) => (match (valsOf rs).bind (m o) with | some (r, o') => .ok (.val r) (env.set i (.own o')) | none => .bad) | _ => .bad) Q) : rMut K m (.ref a) vs H Q := by
  cases e1 : env[i]? with
  | none => rw [e1] at o; exact o.elim
  | some z =>
    rw [e1] at o
    cases z with
    | own w =>
      simp only at o
      cases e2 : valsOf rs with
      | none => rw [e2] at o; exact o.elim
      | some ds =>
        cases e3 : m w ds with
        | none => simp only [e2, Option.bind, e3] at o; exact o.elim
        | some z =>
          obtain ⟨r', o'⟩ := z
          simp only [e2, Option.bind, e3] at o
          obtain ⟨a', q, n, w0⟩ := g.er.ow i w e1
          rw [es] at q; cases q
          refine ⟨Φ, a, w, ds, r', o', g.le, rfl, n, w0, r.valsOf e2, e3, fun v H' k w' rp => ?_⟩
          obtain ⟨g', p'⟩ := g.change e1 es k w'
          exact o v Φ H' g' rp ((p.trans p').some fun b h => h.elim id False.elim)
    | un => exact o.elim
    | val d => exact o.elim
theorem tyV_own {K : PySem.W.Frag} {Φ H : Hp} {a : Addr} {o : O} (w : OwnR K Φ H a o) : tyV K (kindO o) (.ref a) H := by
  cases o with
  | lst ds => obtain ⟨vs, q, _⟩ := w; exact .inl ⟨rfl, vs, .of q⟩
  | dic kvs =>
    refine .inr (.inr (.inl ⟨rfl, ?_⟩))
    rcases w with ⟨ws, q, _⟩ | ⟨ws, q, _⟩
    · exact .inl ⟨ws, q⟩
    · exact .inr ⟨ws, q⟩
theorem de_mut {i : Nat} {y : Str} {py apos cpos : Pos} {e : Expr} {es : List Expr} {name : Str} {ty id : String} {m : O → List D → Option (D × O)} {fs : List Arg} {top : Bool} (pa : PlainAttrs ty) (slot : Slot ty name id) (hty : typeOf (.builtin id) = pure (.type "method_descriptor")) (hm : ∀ X W, Fx T N sc cold top k X W → MtR X id (rMut T.K m))
    (hN : N[i]? = some y) (hv : Vis sc y) (hd : (y == ("__debug__" : Str)) = false) (hcd : (y == ("__classdict__" : Str)) = false) (ha : DA T N sc cold top k (e :: es) fs) (hline : (apos.endLine == cpos.line) = true) (hs : (e :: es).all noStar = true) (hl : (e :: es).length < 30) :
    DE T N sc cold top k (.Call (.Attribute (.Name y py) name apos) (e :: es) [] cpos) (semMut ty m i fs) := fun X W F => by
  have h1 : noStar e = true ∧ es.all noStar = true := by simpa [Bool.and_eq_true] using hs
  refine PEimp (pe_bm pa slot hty (hm X W F) (pe_slot hN hv hd hcd F) (ha X W F) rfl ?_ hline (starEach_one h1.1) (starEach_plain h1.2)) fun σ H Q ⟨Φ, env, g0, o⟩ => ?_
  · rw [starEach_all hs, keyEach_nil]
    simp only [Bool.true_and, List.length_nil, List.isEmpty_nil, if_true, Nat.add_zero]
    exact decide_eq_true hl
  · unfold semMut at o
    cases e0 : env[i]? with
    | none => rw [e0] at o; exact o.elim
    | some z =>
      rw [e0] at o
      cases z with
      | own w =>
        simp only at o
        split at o
        · rename_i hk
          obtain ⟨a, q, n, w0⟩ := g0.er.ow i w e0
          refine ⟨_, q, ?_, Φ, env, g0, (OutL.bind o).mono fun vs H1 ⟨rs, env1, Φ1, g1, r1, p1, o1⟩ => mut_of g1 q r1 p1 o1⟩
          rw [F.eK, ← hk]; exact tyV_own w0
        · exact o.elim
      | un => exact o.elim
      | val d => exact o.elim
theorem de_mut0 {i : Nat} {y : Str} {py apos cpos : Pos} {name : Str} {ty id : String} {m : O → List D → Option (D × O)} {top : Bool} (pa : PlainAttrs ty) (slot : Slot ty name id) (hty : typeOf (.builtin id) = pure (.type "method_descriptor")) (hm : ∀ X W, Fx T N sc cold top k X W → MtR X id (rMut T.K m))
    (hN : N[i]? = some y) (hv : Vis sc y) (hd : (y == ("__debug__" : Str)) = false) (hcd : (y == ("__classdict__" : Str)) = false) (hline : (apos.endLine == cpos.line) = true) :
    DE T N sc cold top k (.Call (.Attribute (.Name y py) name apos) [] [] cpos) (semMut ty m i []) := fun X W F => by
  refine PEimp (pe_bm0 pa slot hty (hm X W F) (pe_slot hN hv hd hcd F) rfl hline) fun σ H Q ⟨Φ, env, g0, o⟩ => ?_
  unfold semMut at o
  cases e0 : env[i]? with
  | none => rw [e0] at o; exact o.elim
  | some z =>
    rw [e0] at o
    cases z with
    | own w =>
      simp only at o
      split at o
      · rename_i hk
        obtain ⟨a, q, n, w0⟩ := g0.er.ow i w e0
        refine ⟨_, q, ?_, mut_of (rs := []) g0 q .nil (Pres.refl _ _ _) o⟩
        rw [F.eK, ← hk]; exact tyV_own w0
      · exact o.elim
    | un => exact o.elim
    | val d => exact o.elim
end
end EV
end
section
set_option Elab.async false
set_option linter.all false
set_option maxRecDepth 100000
set_option autoImplicit false
/-! EV11: defs and their calls -/
namespace EV
open PySem PySem.Spec PyProof.Rows L2

/-- what a call hands back; the parameters' things behind it -/
inductive CRe where
  | ok (r : R) (ps : List SV) | ex (x : Xc) (ps : List SV) | bad
abbrev Cs := List SV → CRe
def spE (T : Tx) (cs : Cs) : Sp := fun vs H Q E => ∃ Φ args, Good T.K Φ H args (vs.map some) ∧ match cs args with
  | .ok r ps => r.last = true ∧ (∀ i, r ≠ .slot i) ∧ (∀ v Φ' H', Good T.K Φ' H' ps (vs.map some) → RR T.K Φ' H' ps (vs.map some) v r → Pres Φ H (Ow args (vs.map some)) Φ' H' (fun b => Ow ps (vs.map some) b ∨ RO v b r) → Q v H') ∨
      (∃ o, r = .own o) ∧ (∀ v Φ' H', Good T.K Φ' H' ps (vs.map some) → RR T.K Φ' H' ps (vs.map some) v r → Pres Φ H (Ow args (vs.map some)) Φ' H' (fun b => Ow ps (vs.map some) b ∨ RO v b r) → Q v H')
  | .ex x ps => ∀ Φ' H' cls d, Good T.K Φ' H' ps (vs.map some) → XcR T.K T.mg Φ' x cls d → Pres Φ H (Ow args (vs.map some)) Φ' H' (Ow ps (vs.map some)) → E cls d H'
  | .bad => False
structure FnE (T : Tx) (k : Nat) (f : Addr) (fd : FuncData) (ps : List Str) (cs : Cs) : Prop where
  run : ∀ (A : Around) (outer : List PySem.Env) (s : Shared) (H : Hp) (args : Args) (us : List Value) (vs : List V) (Q : VK) (E : XK), RoomE k A → A.handled = none → A.guards = some [] → Env0 T.P T.w T.K T.mg T.base A outer s H → BindsTo s fd args (ps.zip us) → Vals vs us → vs.length = ps.length → spE T cs vs H Q E →
    codeAny (model T.P T.w) A (.call (.ref f) args) (L2.CR (L2N.CX T.P T.w) outer T.P T.w H s Q E) s

/-! ### a def's body -/
def outPs (nr : List Nat) (n : Nat) (s : Sg) : List SV := (List.range n).map fun i => if nr.contains i = true then s.getD i .un else .un
def mkCs (m : Nat) (nr : List Nat) (f : SemS) : Cs := fun args => match f (args ++ List.replicate (m - args.length) SV.un) with
  | .nx s => .ok (.val .none) (outPs nr args.length s)
  | .rt r s => match r with
    | .slot _ => .bad
    | r => .ok r (outPs nr args.length s)
  | .ex x s => .ex x (outPs nr args.length s)
  | _ => .bad
section
variable {K : PySem.W.Frag} {Φ H : Hp} {env : Sg} {σ0 σ : Sl} {nr : List Nat}
theorem outPs_get {n i : Nat} {x : SV} (h : (outPs nr n env)[i]? = some x) (hx : x ≠ .un) : i < n ∧ i ∈ nr ∧ env[i]? = some x := by
  unfold outPs at h
  rw [List.getElem?_map] at h
  cases e : (List.range n)[i]? with
  | none => rw [e] at h; cases h
  | some j =>
    rw [e] at h
    have hj : j = i ∧ i < n := by
      obtain ⟨h1, h2⟩ := List.getElem?_eq_some_iff.mp e
      simp at h2 h1; exact ⟨h2.symm, h1⟩
    obtain ⟨rfl, hi⟩ := hj
    simp only [Option.map_some, Option.some.injEq] at h
    split at h
    · rename_i hn
      refine ⟨hi, by simpa using hn, ?_⟩
      rw [List.getD_eq_getElem?_getD] at h
      cases e2 : env[j]? with
      | none => rw [e2] at h; exact absurd h.symm hx
      | some y => rw [e2] at h; exact congrArg some h
    · exact absurd h.symm hx
theorem Good.outPs {vs : List V} {l : Sl} (g : Good K Φ H env σ) (pn : Pin nr (vs.map some ++ l) σ) : Good K Φ H (EV.outPs nr vs.length env) (vs.map some) ∧ ∀ a, Ow (EV.outPs nr vs.length env) (vs.map some) a → Ow env σ a := by
  have key : ∀ i x, (EV.outPs nr vs.length env)[i]? = some x → x ≠ SV.un → env[i]? = some x ∧ σ[i]? = (vs.map some)[i]? := fun i x h hx => by
    obtain ⟨h1, h2, h3⟩ := outPs_get h hx
    exact ⟨h3, by rw [pn i h2, List.getElem?_append_left (by simpa using h1)]⟩
  refine ⟨⟨g.le, by simp [EV.outPs], fun i d e => ?_, fun i o e => ?_, fun i j o o' a e1 e2 e3 e4 => ?_⟩, fun a ⟨i, o, e1, e2⟩ => ?_⟩
  · obtain ⟨h1, h2⟩ := key i _ e (by intro z; cases z)
    rw [← h2]; exact g.er.vl i d h1
  · obtain ⟨h1, h2⟩ := key i _ e (by intro z; cases z)
    rw [← h2]; exact g.er.ow i o h1
  · obtain ⟨h1, h2⟩ := key i _ e1 (by intro z; cases z)
    obtain ⟨h3, h4⟩ := key j _ e2 (by intro z; cases z)
    exact g.er.dj i j o o' a h1 h3 (by rw [h2]; exact e3) (by rw [h4]; exact e4)
  · obtain ⟨h1, h2⟩ := key i _ e1 (by intro z; cases z)
    exact ⟨i, o, h1, by rw [h2]; exact e2⟩
theorem Good.start {vs : List V} {args : Sg} {m : Nat} (g : Good K Φ H args (vs.map some)) : Good K Φ H (args ++ List.replicate (m - args.length) SV.un) (vs.map some ++ List.replicate (m - vs.length) none) ∧ ∀ a, Ow (args ++ List.replicate (m - args.length) SV.un) (vs.map some ++ List.replicate (m - vs.length) none) a ↔ Ow args (vs.map some) a := by
  have hl : args.length = vs.length := by simpa using g.er.len
  have key : ∀ i x, (args ++ List.replicate (m - args.length) SV.un)[i]? = some x → x ≠ SV.un → args[i]? = some x ∧ (vs.map some ++ List.replicate (m - vs.length) none)[i]? = (vs.map some)[i]? := fun i x h hx => by
    by_cases hi : i < args.length
    · rw [List.getElem?_append_left hi] at h
      exact ⟨h, List.getElem?_append_left (by simpa [← hl] using hi)⟩
    · rw [List.getElem?_append_right (by omega), List.getElem?_replicate] at h
      split at h
      · cases h; exact absurd rfl hx
      · cases h
  refine ⟨⟨g.le, by simp [hl], fun i d e => ?_, fun i o e => ?_, fun i j o o' a e1 e2 e3 e4 => ?_⟩, fun a => ⟨fun ⟨i, o, e1, e2⟩ => ?_, fun ⟨i, o, e1, e2⟩ => ?_⟩⟩
  · obtain ⟨h1, h2⟩ := key i _ e (by intro z; cases z)
    rw [h2]; exact g.er.vl i d h1
  · obtain ⟨h1, h2⟩ := key i _ e (by intro z; cases z)
    rw [h2]; exact g.er.ow i o h1
  · obtain ⟨h1, h2⟩ := key i _ e1 (by intro z; cases z)
    obtain ⟨h3, h4⟩ := key j _ e2 (by intro z; cases z)
    rw [h2] at e3; rw [h4] at e4
    exact g.er.dj i j o o' a h1 h3 e3 e4
  · obtain ⟨h1, h2⟩ := key i _ e1 (by intro z; cases z)
    rw [h2] at e2; exact ⟨i, o, h1, e2⟩
  · have hi := (List.getElem?_eq_some_iff.mp e1).1
    refine ⟨i, o, by rw [List.getElem?_append_left hi]; exact e1, ?_⟩
    rw [List.getElem?_append_left (by simpa [← hl] using hi)]; exact e2
end

theorem fxOf {T : Tx} {N : List Str} {qual : Str} {scope : Scope} {f : Addr} {cd : Value} {A : Around} {outer : List PySem.Env} {s : Shared} {H : Hp} {E : XK} {k : Nat} (nd : N.Nodup) (hk : scope.kind = .function) (hr : RoomE (k + 1) A) (hh : A.handled = none) (hg : A.guards = some []) :
    Fx T N scope true true k (cxOf (L2N.CX T.P T.w) T.P T.w T.K T.mg T.base N qual scope f cd A outer s H E) (fun cls d _ H' => E cls d H') where
  eP := rfl
  ew := rfl
  eK := rfl
  em := rfl
  eb := rfl
  eN := rfl
  nd := nd
  es := rfl
  tk := L2N.takes_of rfl rfl rfl rfl
  ps := passes_of rfl
  rm := hr.deeper _
  cal := fun _ => ⟨rfl, hh, hg⟩
  fn := fun _ _ => rfl
  tp := fun _ => ⟨rfl, rfl, hk⟩

theorem fnE_of {T : Tx} {k : Nat} {f : Addr} {name qual : Str} {params : Arguments} {body : List Stmt} {scope : Scope} {dV kV doc pm cdv ct oc : Value} {an od : Option Addr}
    {osl : Array (Option Value)} {N ps : List Str} {nr : List Nat} {fb : SemS} (lk : T.K.lookup f = some ⟨oc, od, .func (PySem.W.fnOf name qual params body scope dV kV doc pm an cdv ct), osl⟩) (hcd : PySem.W.codeIn T.K cdv qual = true) (S : FnScope N ps scope)
    (hb : DSs T N scope true nr k body fb) : FnE T (k + 1) f (PySem.W.fnOf name qual params body scope dV kV doc pm an cdv ct) ps (mkCs N.length nr fb) := by
  refine ⟨fun A outer s H args us vs Q E hr hh hgd e0 hbd r hl hsp => ?_⟩
  have KX : T.K.In s.heap := e0.mod.kin.keeps fun b o e => (e0.bs b o e).1
  have lim : s.heap.NoLimit := e0.mod.nolimit.keeps fun b o e => (e0.bs b o e).1
  have hkind : ∀ y ∈ ps.zip us, scope.names.lookup y.1 = some .local ∨ (scope.names.lookup y.1 = some .cell ∧ ((cellsFrom (s.heap.objs.size + 1) scope.names []).lookup y.1).isSome = true) := fun ⟨n, v⟩ hy => by
    rcases S.par n (List.of_mem_zip hy).1 with q | q
    · exact .inl q
    · exact .inr ⟨q, PySem.W.cellsFrom_some _ _ _ (.inl q)⟩
  have dpt : A.depth < recursionLimit := by have := hr.dp; omega
  refine codeAny_call_function dpt (KX _ _ lk) rfl S.co S.gen rfl (PySem.W.codeRec_of KX hcd) (hbd _ _ _ _ ?_)
  refine wpAny_newFunctionEnv_cells S.kind hkind fun env he s1 x => ?_
  subst he
  refine ⟨lim.keeps x.toInCall.keep, codeAny_func ?_⟩
  obtain ⟨Φ, ag, g, hm⟩ := hsp
  have hag : ag.length = vs.length := by simpa using g.er.len
  have I : Inv (cxOf (L2N.CX T.P T.w) T.P T.w T.K T.mg T.base N qual scope f cdv A outer s H E) [] (L2.start N vs) H s1 := inv_start S hh e0 hl r x
  obtain ⟨g0, ow0⟩ := g.start (m := N.length)
  have len0 : (ag ++ List.replicate (N.length - ag.length) SV.un).length = (vs.map some ++ List.replicate (N.length - vs.length) (none : Option V)).length := g0.er.len
  have hb' := hb _ _ (L2.start N vs) (fxOf (T := T) (N := N) (qual := qual) (scope := scope) (f := f) (cd := cdv) (A := A) (outer := outer) (s := s) (H := H) (E := E) (k := k) S.nd S.kind hr hh hgd)
  have fin : ∀ {σ' : Sl} {H' : Hp} {v : V} {u : Value} {s' : Shared}, Inv (cxOf (L2N.CX T.P T.w) T.P T.w T.K T.mg T.base N qual scope f cdv A outer s H E) [] σ' H' s' → RelV v u → Q v H' → CE outer T.P T.w H s Q u s' :=
    fun {σ' H' v u s'} J rv q => ⟨v, H', J.os, J.bare, J.base, J.hok, rv, q⟩
  refine wpAny_mono (hb'.run [] s1 (L2.start N vs) H { nx := fun _ H' => Q .non H', rt := Q } I ⟨Φ, _, g0, Pin.refl _ _, ?_⟩) (fun fl s' hs => ?_) fun e s' hs => hs
  · have pa : Pres Φ H (Ow ag (vs.map some)) Φ H (Ow (ag ++ List.replicate (N.length - ag.length) SV.un) (L2.start N vs)) := ⟨Le.refl _, fun _ _ e _ => e, fun a h => .inl ((ow0 a).mp h), fun _ h => .inl h⟩
    unfold mkCs at hm
    cases e : fb (ag ++ List.replicate (N.length - ag.length) SV.un) with
    | nx s2 =>
      simp only [e] at hm
      intro σ' Φ' H' g' pn' p'
      obtain ⟨g2, sub⟩ := g'.outPs pn'
      rw [← hag] at g2 sub
      rcases hm with ⟨_, _, hm⟩ | ⟨⟨o, ho⟩, _⟩
      · exact hm _ Φ' H' g2 .non ((pa.trans p').some fun b h => h.elim (sub b) False.elim)
      · cases ho
    | rt r s2 =>
      simp only [e] at hm
      intro v σ' Φ' H' g' pn' rr _ p'
      obtain ⟨g2, sub⟩ := g'.outPs pn'
      rw [← hag] at g2 sub
      have pr := (pa.trans p').some (B1 := fun b => Ow (EV.outPs nr ag.length s2) (vs.map some) b ∨ RO v b r) fun b h => h.imp (sub b) id
      cases r with
      | val d =>
        simp only at hm
        rcases hm with ⟨_, _, hm⟩ | ⟨⟨o, ho⟩, _⟩
        · exact hm _ Φ' H' g2 rr pr
        · cases ho
      | own o =>
        simp only at hm
        obtain ⟨a, rfl, na, w, no⟩ := rr
        rcases hm with ⟨h, _, _⟩ | ⟨_, hm⟩
        · cases h
        · exact hm _ Φ' H' g2 ⟨a, rfl, na, w, fun h => no (sub a h)⟩ pr
      | slot i => exact hm.elim
    | bk s2 => simp only [e] at hm
    | ct s2 => simp only [e] at hm
    | ex x s2 =>
      simp only [e] at hm
      intro σ' Φ' H' cls d g' pn' xr p'
      obtain ⟨g2, sub⟩ := g'.outPs pn'
      rw [← hag] at g2 sub
      exact hm Φ' H' cls d g2 xr ((pa.trans p').some sub)
    | bad => simp only [e] at hm
  · cases fl with
    | ret u =>
      obtain ⟨v, σ', H', J, rv, q⟩ := hs
      exact fin J rv q
    | next =>
      obtain ⟨σ', H', J, q⟩ := hs
      exact fin (v := V.non) (u := Value.none) J rfl q
    | brk =>
      obtain ⟨_, _, _, q⟩ := hs
      exact False.elim q
    | cont =>
      obtain ⟨_, _, _, q⟩ := hs
      exact False.elim q

/-! ### a call by the def's name -/
def argSV (s : Sg) : R → SV
  | .val d => .val d
  | .own _ => .un
  | .slot i => s.getD i .un
def slotsOf : List R → List Nat
  | [] => []
  | .slot i :: rs => i :: slotsOf rs
  | _ :: rs => slotsOf rs
def nodupN : List Nat → Bool
  | [] => true
  | i :: l => !l.contains i && nodupN l
/-- the things of the arguments' slots, behind the call -/
def backs : List R → List SV → Sg → Sg
  | .slot i :: rs, p :: ps, s => backs rs ps (s.set i p)
  | _ :: rs, _ :: ps, s => backs rs ps s
  | _, _, s => s
def callBack (cs : Cs) (rs : List R) (s : Sg) : Re R := if nodupN (slotsOf rs) = true then match cs (rs.map (argSV s)) with
    | .ok (.slot _) _ => .bad
    | .ok r ps => .ok r (backs rs ps s)
    | .ex x ps => .ex x (backs rs ps s)
    | .bad => .bad
  else .bad
def semCall (cs : Cs) (fs : List Arg) : Sem := fun s => (semArgs fs s).bind fun rs s1 => callBack cs rs s1
section
variable {K : PySem.W.Frag} {Φ H : Hp} {env : Sg} {σ : Sl}
theorem slotsOf_mem {rs : List R} {i : Nat} : i ∈ slotsOf rs ↔ ∃ j : Nat, rs[j]? = some (R.slot i) := by
  induction rs with
  | nil => simp [slotsOf]
  | cons r rs ih =>
    constructor
    · intro h
      cases r with
      | slot l =>
        simp only [slotsOf, List.mem_cons] at h
        rcases h with rfl | h
        · exact ⟨0, rfl⟩
        · obtain ⟨j, e⟩ := ih.mp h; exact ⟨j + 1, by simpa using e⟩
      | val d => obtain ⟨j, e⟩ := ih.mp h; exact ⟨j + 1, by simpa using e⟩
      | own d => obtain ⟨j, e⟩ := ih.mp h; exact ⟨j + 1, by simpa using e⟩
    · rintro ⟨j, e⟩
      cases j with
      | zero => simp at e; subst e; simp [slotsOf]
      | succ j =>
        have := ih.mpr ⟨j, by simpa using e⟩
        cases r <;> simp [slotsOf, this]
theorem backs_length : ∀ (rs : List R) (ps : List SV) (s : Sg), (backs rs ps s).length = s.length
  | [], ps, s => by cases ps <;> rfl
  | r :: rs, [], s => by cases r <;> rfl
  | .slot i :: rs, p :: ps, s => by simp only [backs]; rw [backs_length rs ps]; simp
  | .val _ :: rs, p :: ps, s => by simp only [backs]; exact backs_length rs ps s
  | .own _ :: rs, p :: ps, s => by simp only [backs]; exact backs_length rs ps s
theorem backs_get : ∀ (rs : List R) (ps : List SV) (s : Sg) {i : Nat} {x : SV}, nodupN (slotsOf rs) = true → rs.length = ps.length → (backs rs ps s)[i]? = some x → (∃ j : Nat, rs[j]? = some (R.slot i) ∧ ps[j]? = some x) ∨ (i ∉ slotsOf rs ∧ s[i]? = some x)
  | [], ps, s, i, x, _, _, h => by
    have e : backs [] ps s = s := by cases ps <;> rfl
    rw [e] at h; exact .inr ⟨by simp [slotsOf], h⟩
  | r :: rs, [], s, i, x, _, hl, _ => by simp at hl
  | .slot l :: rs, p :: ps, s, i, x, hn, hl, h => by
    simp only [slotsOf, nodupN, Bool.and_eq_true, Bool.not_eq_true'] at hn
    have hl' : l ∉ slotsOf rs := by
      intro z
      have := hn.1
      rw [List.contains_iff_mem.mpr z] at this; cases this
    simp only [backs] at h
    rcases backs_get rs ps _ hn.2 (by simpa using hl) h with ⟨j, h1, h2⟩ | ⟨h1, h2⟩
    · exact .inl ⟨j + 1, by simpa using h1, by simpa using h2⟩
    · by_cases e : l = i
      · subst e
        rw [List.getElem?_set_self'] at h2
        cases q : s[l]? with
        | none => rw [q] at h2; cases h2
        | some y => rw [q] at h2; cases h2; exact .inl ⟨0, rfl, rfl⟩
      · rw [get_set_ne e] at h2
        exact .inr ⟨by simp [slotsOf, h1, Ne.symm e], h2⟩
  | .val _ :: rs, p :: ps, s, i, x, hn, hl, h => by
    simp only [backs] at h
    rcases backs_get rs ps _ hn (by simpa using hl) h with ⟨j, h1, h2⟩ | h1
    · exact .inl ⟨j + 1, by simpa using h1, by simpa using h2⟩
    · exact .inr h1
  | .own _ :: rs, p :: ps, s, i, x, hn, hl, h => by
    simp only [backs] at h
    rcases backs_get rs ps _ hn (by simpa using hl) h with ⟨j, h1, h2⟩ | h1
    · exact .inl ⟨j + 1, by simpa using h1, by simpa using h2⟩
    · exact .inr h1
theorem RRs.at {vs : List V} {rs : List R} (h : RRs K Φ H env σ vs rs) {j : Nat} {r : R} (e : rs[j]? = some r) : ∃ v, vs[j]? = some v ∧ RR K Φ H env σ v r ∧ r.last = true := by
  induction h generalizing j with
  | nil => simp at e
  | cons a b _ ih =>
    cases j with
    | zero => simp at e; subst e; exact ⟨_, rfl, a, b⟩
    | succ j => obtain ⟨v, h1, h2⟩ := ih (j := j) (by simpa using e); exact ⟨v, by simpa using h1, h2⟩
theorem RRs.len {vs : List V} {rs : List R} (h : RRs K Φ H env σ vs rs) : vs.length = rs.length := by
  induction h with
  | nil => rfl
  | cons _ _ _ ih => simp [ih]
theorem nodup_at : ∀ {rs : List R}, nodupN (slotsOf rs) = true → ∀ {i j l : Nat}, rs[i]? = some (R.slot l) → rs[j]? = some (R.slot l) → i = j
  | [], _, i, j, l, h, _ => by simp at h
  | r :: rs, hn, i, j, l, h1, h2 => by
    have tl : nodupN (slotsOf rs) = true := by
      cases r with
      | slot x => simp only [slotsOf, nodupN, Bool.and_eq_true] at hn; exact hn.2
      | val d => exact hn
      | own d => exact hn
    have hd : ∀ {j : Nat}, r = R.slot l → rs[j]? = some (R.slot l) → False := fun {j} e h => by
      subst e
      simp only [slotsOf, nodupN, Bool.and_eq_true, Bool.not_eq_true'] at hn
      have z := slotsOf_mem.mpr ⟨j, h⟩
      rw [List.contains_iff_mem.mpr z] at hn
      cases hn.1
    cases i with
    | zero =>
      cases j with
      | zero => rfl
      | succ j => simp at h1 h2; exact (hd h1 h2).elim
    | succ i =>
      cases j with
      | zero => simp at h1 h2; exact (hd h2 h1).elim
      | succ j => exact congrArg (· + 1) (nodup_at (rs := rs) (i := i) (j := j) (l := l) tl (by simpa using h1) (by simpa using h2))
/-- the arguments' state -/
theorem Good.args {vs : List V} {rs : List R} (g : Good K Φ H env σ) (h : RRs K Φ H env σ vs rs) (hn : nodupN (slotsOf rs) = true) :
    Good K Φ H (rs.map (argSV env)) (vs.map some) ∧ ∀ a, Ow (rs.map (argSV env)) (vs.map some) a ↔ ∃ (j i : Nat) (o : O), rs[j]? = some (R.slot i) ∧ env[i]? = some (SV.own o) ∧ σ[i]? = some (some (.ref a)) := by
  have key : ∀ (j : Nat) (x : SV), (rs.map (argSV env))[j]? = some x → ∃ r v, rs[j]? = some r ∧ vs[j]? = some v ∧ RR K Φ H env σ v r ∧ r.last = true ∧ x = argSV env r := fun j x e => by
    rw [List.getElem?_map] at e
    cases q : rs[j]? with
    | none => rw [q] at e; cases e
    | some r =>
      rw [q] at e
      obtain ⟨v, h1, h2, h3⟩ := h.at q
      exact ⟨r, v, rfl, h1, h2, h3, (Option.some.inj e).symm⟩
  have vat : ∀ {j : Nat} {v : V}, vs[j]? = some v → (vs.map some)[j]? = some (some v) := fun {j v} e => by rw [List.getElem?_map, e]; rfl
  have slotOwn : ∀ {i : Nat} {o : O}, env.getD i .un = .own o → env[i]? = some (SV.own o) := by
    intro i o e
    rw [List.getD_eq_getElem?_getD] at e
    cases q : env[i]? with
    | none => rw [q] at e; cases e
    | some y => rw [q] at e; exact congrArg some e
  have ownAt : ∀ {j : Nat} {o : O}, (rs.map (argSV env))[j]? = some (SV.own o) → ∃ (i : Nat) (v : V), rs[j]? = some (R.slot i) ∧ vs[j]? = some v ∧ env[i]? = some (SV.own o) ∧ σ[i]? = some (some v) := fun {j o} e => by
    obtain ⟨r, v, h1, h2, h3, h4, h5⟩ := key j _ e
    cases r with
    | val d => cases h5
    | own d => cases h4
    | slot i => exact ⟨i, v, h1, h2, slotOwn h5.symm, h3⟩
  refine ⟨⟨g.le, by simp [h.len], fun j d e => ?_, fun j o e => ?_, fun j l o o' a e1 e2 e3 e4 => ?_⟩, fun a => ⟨fun ⟨j, o, e1, e2⟩ => ?_, fun ⟨j, i, o, e1, e2, e3⟩ => ?_⟩⟩
  · obtain ⟨r, v, h1, h2, h3, h4, h5⟩ := key j _ e
    refine ⟨v, vat h2, ?_⟩
    cases r with
    | val d' => cases h5; exact h3
    | own d' => cases h4
    | slot i =>
      have q : env[i]? = some (.val d) := by
        have h5 : SV.val d = env.getD i .un := h5
        rw [List.getD_eq_getElem?_getD] at h5
        cases q : env[i]? with
        | none => rw [q] at h5; cases h5
        | some y => rw [q] at h5; exact congrArg some h5.symm
      obtain ⟨u, z, r⟩ := g.er.vl i d q
      have h3 : σ[i]? = some (some v) := h3
      rw [h3] at z; cases z; exact r
  · obtain ⟨i, v, h1, h2, h3, h4⟩ := ownAt e
    obtain ⟨a, z, n, w⟩ := g.er.ow i o h3
    rw [h4] at z; cases z
    exact ⟨a, vat h2, n, w⟩
  · obtain ⟨i1, v1, h1, h2, h3, h4⟩ := ownAt e1
    obtain ⟨i2, v2, k1, k2, k3, k4⟩ := ownAt e2
    rw [vat h2] at e3; rw [vat k2] at e4
    cases e3; cases e4
    have := g.er.dj i1 i2 o o' a h3 k3 h4 k4
    subst this
    exact nodup_at hn h1 k1
  · obtain ⟨i, v, h1, h2, h3, h4⟩ := ownAt e1
    rw [vat h2] at e2; cases e2
    exact ⟨j, i, o, h1, h3, h4⟩
  · obtain ⟨v, h1, h2, _⟩ := h.at e1
    have h2 : σ[i]? = some (some v) := h2
    rw [e3] at h2; cases h2
    refine ⟨j, o, ?_, vat h1⟩
    rw [List.getElem?_map, e1]
    show some (env.getD i .un) = _
    rw [List.getD_eq_getElem?_getD, e2]; rfl
/-- behind the call -/
theorem Good.back {vs : List V} {rs : List R} {ps : List SV} {Φ' H' : Hp} {B : Addr → Prop} (g : Good K Φ H env σ) (h : RRs K Φ H env σ vs rs) (hn : nodupN (slotsOf rs) = true) (g' : Good K Φ' H' ps (vs.map some)) (p : Pres Φ H (Ow (rs.map (argSV env)) (vs.map some)) Φ' H' (fun b => Ow ps (vs.map some) b ∨ B b)) :
    Good K Φ' H' (backs rs ps env) σ ∧ Pres Φ H (Ow env σ) Φ' H' (fun b => Ow (backs rs ps env) σ b ∨ B b) ∧ ∀ b, Ow (backs rs ps env) σ b → Ow ps (vs.map some) b ∨ (Ow env σ b ∧ ¬ Ow (rs.map (argSV env)) (vs.map some) b) := by
  obtain ⟨ga, oa⟩ := g.args h hn
  have hl : rs.length = ps.length := by have := g'.er.len; have h2 := h.len; simp at this; omega
  have vat : ∀ {j : Nat} {v : V}, vs[j]? = some v → (vs.map some)[j]? = some (some v) := fun {j v} e => by rw [List.getElem?_map, e]; rfl
  have slotV : ∀ {j i : Nat}, rs[j]? = some (R.slot i) → ∃ v, (vs.map some)[j]? = some (some v) ∧ σ[i]? = some (some v) := fun {j i} e => by
    obtain ⟨v, h1, h2, _⟩ := h.at e
    exact ⟨v, vat h1, h2⟩
  -- what is not among the arguments
  have out : ∀ {i : Nat} {o : O} {a : Addr}, i ∉ slotsOf rs → env[i]? = some (SV.own o) → σ[i]? = some (some (.ref a)) → ¬ Ow (rs.map (argSV env)) (vs.map some) a := fun {i o a} hi e es h => by
    obtain ⟨j, i', o', e1, e2, e3⟩ := (oa a).mp h
    have := g.er.dj i i' o o' a e e2 es e3
    subst this
    exact hi (slotsOf_mem.mpr ⟨j, e1⟩)
  have cas : ∀ {b}, Ow (backs rs ps env) σ b → Ow ps (vs.map some) b ∨ (Ow env σ b ∧ ¬ Ow (rs.map (argSV env)) (vs.map some) b) := fun {b} ⟨i, o, e1, e2⟩ => by
    rcases backs_get rs ps env hn hl e1 with ⟨j, h1, h2⟩ | ⟨h1, h2⟩
    · obtain ⟨v, z1, z2⟩ := slotV h1
      rw [e2] at z2; cases z2
      exact .inl ⟨j, o, h2, z1⟩
    · exact .inr ⟨⟨i, o, h2, e2⟩, out h1 h2 e2⟩
  refine ⟨⟨g'.le, by rw [backs_length]; exact g.er.len, fun i d e => ?_, fun i o e => ?_, fun i l o o' a e1 e2 e3 e4 => ?_⟩, p.mono (fun a h => ?_) (fun b h => ?_), fun b h => cas h⟩
  · rcases backs_get rs ps env hn hl e with ⟨j, h1, h2⟩ | ⟨h1, h2⟩
    · obtain ⟨v, z1, z2⟩ := slotV h1
      obtain ⟨u, y1, y2⟩ := g'.er.vl j d h2
      rw [z1] at y1; cases y1
      exact ⟨v, z2, y2⟩
    · obtain ⟨v, y1, y2⟩ := g.er.vl i d h2
      exact ⟨v, y1, y2.mono p.ff⟩
  · rcases backs_get rs ps env hn hl e with ⟨j, h1, h2⟩ | ⟨h1, h2⟩
    · obtain ⟨v, z1, z2⟩ := slotV h1
      obtain ⟨a, y1, y2, y3⟩ := g'.er.ow j o h2
      rw [z1] at y1; cases y1
      exact ⟨a, z2, y2, y3⟩
    · obtain ⟨a, y1, y2, y3⟩ := g.er.ow i o h2
      have no := out h1 h2 y1
      refine ⟨a, y1, ?_, y3.mono p.ff ?_⟩
      · cases z : Φ' a with
        | none => rfl
        | some u => rcases p.fz a (by rw [z]; simp) with q | q | q | ⟨xs, q⟩
                    · exact absurd y2 q
                    · exact absurd q no
                    · exact absurd q y3.there
                    · exact absurd q (y3.noTup xs)
      · cases z : H a with
        | none => exact absurd z y3.there
        | some u => exact p.kp a u z no
  · have mix : ∀ {j i' : Nat} {o1 o2 : O}, True → ps[j]? = some (SV.own o1) → (vs.map some)[j]? = some (some (.ref a)) → i' ∉ slotsOf rs → env[i']? = some (SV.own o2) → σ[i']? = some (some (.ref a)) → False := fun {j i' o1 o2} _ h2 h3 k1 k2 k3 => by
      rcases p.nw a (.inl ⟨j, o1, h2, h3⟩) with z | z
      · exact out k1 k2 k3 z
      · obtain ⟨b, y1, _, y3⟩ := g.er.ow i' o2 k2
        rw [k3] at y1; cases y1
        exact y3.there z
    rcases backs_get rs ps env hn hl e1 with ⟨j, h1, h2⟩ | ⟨h1, h2⟩
    · obtain ⟨v, z1, z2⟩ := slotV h1
      rw [e3] at z2; cases z2
      rcases backs_get rs ps env hn hl e2 with ⟨j', k1, k2⟩ | ⟨k1, k2⟩
      · obtain ⟨v, y1, y2⟩ := slotV k1
        rw [e4] at y2; cases y2
        have := g'.er.dj j j' o o' a h2 k2 z1 y1
        subst this
        rw [h1] at k1; cases k1; rfl
      · exact (mix trivial h2 z1 k1 k2 e4).elim
    · rcases backs_get rs ps env hn hl e2 with ⟨j', k1, k2⟩ | ⟨k1, k2⟩
      · obtain ⟨v, y1, y2⟩ := slotV k1
        rw [e4] at y2; cases y2
        exact (mix trivial k2 y1 h1 h2 e3).elim
      · exact g.er.dj i l o o' a h2 k2 e3 e4
  · obtain ⟨j, i, o, e1, e2, e3⟩ := (oa a).mp h
    exact ⟨i, o, e2, e3⟩
  · rcases h with h | h
    · rcases cas h with z | z
      · exact .inl (.inl z)
      · exact .inr (.inl z.1)
    · exact .inl (.inr h)
end
theorem callBack_of {T : Tx} {W : WX} {cs : Cs} {σ : Sl} {Φ0 H0 Φ H : Hp} {A0 : Addr → Prop} {env : Sg} {rs : List R} {vs : List V} {Q : VK} (g : Good T.K Φ H env σ) (h : RRs T.K Φ H env σ vs rs) (p : Pres Φ0 H0 A0 Φ H (Ow env σ)) (o : Out T.K T.mg W σ Φ0 H0 A0 (callBack cs rs env) Q) :
    spE T cs vs H Q (fun cls d H' => W cls d σ H') := by
  unfold callBack at o
  split at o
  · rename_i hn
    obtain ⟨ga, oa⟩ := g.args h hn
    refine ⟨Φ, rs.map (argSV env), ga, ?_⟩
    cases e : cs (rs.map (argSV env)) with
    | ok r ps =>
      have fin : ∀ v Φ' H', Good T.K Φ' H' ps (vs.map some) → RR T.K Φ' H' ps (vs.map some) v r → (∀ i, r ≠ .slot i) → Pres Φ H (Ow (rs.map (argSV env)) (vs.map some)) Φ' H' (fun b => Ow ps (vs.map some) b ∨ RO v b r) → Q v H' := fun v Φ' H' g' rr ns pr => by
        obtain ⟨gb, pb, cas⟩ := g.back h hn g' pr
        cases r with
        | val d => rw [e] at o; exact o v Φ' H' gb rr (p.trans pb)
        | slot i => exact absurd rfl (ns i)
        | own w =>
          rw [e] at o
          refine o v Φ' H' gb ?_ (p.trans pb)
          obtain ⟨a, rfl, na, ow, no⟩ := rr
          refine ⟨a, rfl, na, ow, fun hb => ?_⟩
          rcases cas a hb with z | ⟨z1, z2⟩
          · exact no z
          · rcases pr.nw a (.inr rfl) with y | y
            · exact z2 y
            · exact (g.owned z1).2 y
      cases r with
      | val d => exact .inl ⟨rfl, fun i => (by intro z; cases z), fun v Φ' H' g' rr pr => fin v Φ' H' g' rr (fun i => (by intro z; cases z)) pr⟩
      | own w => exact .inr ⟨⟨w, rfl⟩, fun v Φ' H' g' rr pr => fin v Φ' H' g' rr (fun i => (by intro z; cases z)) pr⟩
      | slot i => rw [e] at o; exact o.elim
    | ex x ps =>
      rw [e] at o
      intro Φ' H' cls d g' xr pr
      obtain ⟨gb, pb, _⟩ := g.back (B := fun _ => False) h hn g' (pr.some fun b h => h.elim id False.elim)
      exact o Φ' H' cls d gb xr (p.trans (pb.some fun b h => .inl h))
    | bad => rw [e] at o; exact o.elim
  · exact o.elim

structure CallE (T : Tx) (k : Nat) (x : Str) (n : Nat) (cs : Cs) : Prop where
  ex : ∃ (f : Addr) (fd : FuncData) (ps : List Str), FnE T k f fd ps cs ∧ T.mg x = some (.ref f) ∧ PySem.W.keepIn T.K (.ref f) = true ∧ Binds T.K fd ps [] ∧ ps.length = n
theorem run_call {T : Tx} {N : List Str} {sc : Scope} {top : Bool} {k : Nat} {X : Cx} {W : WX} {cs : Cs} {f : Addr} {fd : FuncData} {ps : List Str} {pins : List (Addr × Obj)} {σ : Sl} {H : Hp} {s : Shared} {Q : VK} {us : List Value} {vs : List V}
    (F : Fx T N sc true top k X W) (C : FnE T k f fd ps cs) (hb : Binds T.K fd ps []) (hl : vs.length = ps.length) (I : Inv X pins σ H s) (r : Vals vs us) (h : spE T cs vs H Q (fun cls d H' => W cls d σ H')) :
    wpAny (model X.prog X.w) X.A (call (.ref f) us) (EP X pins σ Q) X.xe s := by
  have hl2 : us.length = ps.length := by rw [← r.length]; exact hl
  obtain ⟨cm, hh, hg⟩ := F.cal rfl
  have b := hb s us (F.eK ▸ I.kIn) (by rw [List.append_nil]; exact hl2)
  rw [List.append_nil] at b
  have hX : ∀ (pins : List (Addr × Obj)) (H : Hp) (s : Shared) (e : Value) (s' : Shared), Inv X pins σ H s → L2N.CX X.prog X.w X.stack H s (fun cls d H' => W cls d σ H') e s' → X.xe e s' := L2N.passAt F.tk σ
  have env0 : Env0 T.P T.w T.K T.mg T.base X.A X.stack s H := by
    have := I.env0
    rwa [F.eP, F.ew, F.eK, F.em, F.eb] at this
  have hrun := C.run X.A X.stack s H ⟨us, []⟩ us vs Q _ F.rm hh hg env0 b r hl h
  rw [← F.eP, ← F.ew] at hrun
  refine wpAny_call (codeAny_mono hrun fun r s' hq => ?_)
  cases r with
  | error e => exact hX pins H s e s' I hq
  | ok fl =>
    cases fl with
    | ret u => exact I.after hq
    | next => exact False.elim hq
    | brk => exact False.elim hq
    | cont => exact False.elim hq
theorem semArgs_len : ∀ {fs : List Arg} {s s' : Sg} {rs : List R}, (∀ f ∈ fs, ∃ g, f = .one g) → semArgs fs s = .ok rs s' → rs.length = fs.length
  | [], s, s', rs, _, h => by cases h; rfl
  | .star f :: fs, s, s', rs, ha, h => by obtain ⟨g, e⟩ := ha _ (.head _); cases e
  | .one f :: fs, s, s', rs, ha, h => by
    simp only [semArgs] at h
    cases e : f s with
    | ok r s1 =>
      rw [e] at h
      cases e2 : semArgs fs s1 with
      | ok qs s2 =>
        simp only [Re.bind, e2] at h
        cases h
        simp [semArgs_len (fun f h => ha f (.tail _ h)) e2]
      | ex x s2 => simp only [Re.bind, e2] at h; cases h
      | bad => simp only [Re.bind, e2] at h; cases h
    | ex x s1 => rw [e] at h; cases h
    | bad => rw [e] at h; cases h
theorem OutL.bind2 {K : PySem.W.Frag} {mg : Str → Option Value} {W : WX} {σ : Sl} {Φ0 H0 : Hp} {A0 : Addr → Prop} {res : Re (List R)} {g : List R → Sg → Re R} {Q : VK} (h : Out K mg W σ Φ0 H0 A0 (res.bind g) Q) :
    OutL K mg W σ Φ0 H0 A0 res (fun vs H' => ∃ rs env', res = .ok rs env' ∧ ∃ Φ', Good K Φ' H' env' σ ∧ RRs K Φ' H' env' σ vs rs ∧ Pres Φ0 H0 A0 Φ' H' (Ow env' σ) ∧ Out K mg W σ Φ0 H0 A0 (g rs env') Q) := by
  cases res with
  | ok r s => exact fun v Φ' H' g' r' q => ⟨r, s, rfl, Φ', g', r', q, h⟩
  | ex x s => exact h
  | bad => exact h
theorem de_call {T : Tx} {N : List Str} {sc : Scope} {top : Bool} {k n : Nat} {x : Str} {cs : Cs} {es : List Expr} {e : Expr} {pp pos : Pos} {fs : List Arg} (C : CallE T k x n cs) (ha : DA T N sc true top k (e :: es) fs) (hn : ∀ s s' rs, semArgs fs s = .ok rs s' → rs.length = n)
    (hg : sc.names.lookup x = some .globalImplicit) (hdb : (x == ("__debug__" : Str)) = false) (hs : (e :: es).all noStar = true) : DE T N sc true top k (.Call (.Name x pp) (e :: es) [] pos) (semCall cs fs) := fun X W F => by
  have h1 : noStar e = true ∧ es.all noStar = true := by simpa [Bool.and_eq_true] using hs
  obtain ⟨f, fd, ps, C, hm, hk, hb, hl⟩ := C.ex
  refine ⟨fun pins s σ H Q I ⟨Φ, env, g, o⟩ => ?_⟩
  refine wpAny_Call_Name_kw (ld_glob I (gl_of F hg) (by rw [F.em]; exact hm) ?_ hdb)
  have hk' : PySem.W.keepIn X.K (.ref f) = true := by rw [F.eK]; exact hk
  have oo : OutL T.K T.mg W σ Φ H (Ow env σ) (semArgs fs env) (fun vs H1 => vs.length = n ∧ spE T cs vs H1 Q (fun cls d H' => W cls d σ H')) := by
    refine OutL.mono (OutL.bind2 o) fun vs H1 ⟨rs, env1, e1, Φ1, g1, r1, p1, o1⟩ => ⟨?_, callBack_of g1 r1 p1 o1⟩
    rw [r1.len]; exact hn _ _ _ e1
  refine PySem.W.callWith_K (h₀ := X.base) I.ok.mod.kin hk' (thn ((ha X W F).run pos pins s σ H _ I ⟨Φ, env, g, oo⟩) fun us s1 ⟨vs, H1, I1, r, q⟩ => ⟨I1.kIn, ?_⟩) (starEach_one h1.1) (starEach_plain h1.2)
  exact run_call F C hb (q.1.trans hl.symm) I1 r q.2
theorem de_call0 {T : Tx} {N : List Str} {sc : Scope} {top : Bool} {k : Nat} {x : Str} {cs : Cs} {pp pos : Pos} (C : CallE T k x 0 cs)
    (hg : sc.names.lookup x = some .globalImplicit) (hdb : (x == ("__debug__" : Str)) = false) : DE T N sc true top k (.Call (.Name x pp) [] [] pos) (semCall cs []) := fun X W F => by
  obtain ⟨f, fd, ps, C, hm, hk, hb, hl⟩ := C.ex
  refine ⟨fun pins s σ H Q I ⟨Φ, env, g, o⟩ => ?_⟩
  refine wpAny_Call_Name_kw (ld_glob I (gl_of F hg) (by rw [F.em]; exact hm) ?_ hdb)
  have hk' : PySem.W.keepIn X.K (.ref f) = true := by rw [F.eK]; exact hk
  refine PySem.W.callWith_K0 I.kIn hk' ?_
  exact run_call F C hb (by rw [hl]; rfl) I .nil (callBack_of g .nil (Pres.refl _ _ _) o)
end EV
end
section
set_option Elab.async false
set_option linter.all false
set_option maxRecDepth 100000
set_option autoImplicit false
/-! EV12: two-place operations on data -/
namespace EV
open PySem PySem.Spec PyProof.Rows L2

/-! ### data without dicts -/
section
variable {K : PySem.W.Frag} {Φ H : Hp}
mutual
theorem Rp.dp (l : Le Φ H) : ∀ (d : D) (v : V), Rp K Φ v d → d.hasDict = false → Dp K H v d
  | .none, _, .non, _ => .non
  | .bool _, _, .bl b, _ => .bl b
  | .int _, _, .int i, _ => .int i
  | .str _, _, .str x, _ => .str x
  | .list ds, _, .lst h t _, n => .lst (l.ls h).sq (RpA.dp l ds _ t (by simpa [PyData.hasDict] using n))
  | .tuple ds, _, .tup h t _, n => .tup (.inl (.inl (l _ _ h))) (RpA.dp l ds _ t (by simpa [PyData.hasDict] using n))
  | .dict _, _, _, n => by simp [PyData.hasDict] at n
theorem RpA.dp (l : Le Φ H) : ∀ (ds : List D) (vs : List V), RpA K Φ vs ds → PyData.hasDictAll ds = false → DpAll K H vs ds
  | [], _, .nil, _ => .nil
  | d :: ds, _, .cons a b, n => by
    have n' : d.hasDict = false ∧ PyData.hasDictAll ds = false := by simpa [PyData.hasDictAll] using n
    exact .cons (Rp.dp l d _ a n'.1) (RpA.dp l ds _ b n'.2)
end
theorem CR.dp {v : V} {d : D} (h : CR K Φ H v d) (l : Le Φ H) (n : d.hasDict = false) : Dp K H v d := by
  cases h with
  | fz r => exact Rp.dp l d v r n
  | own w =>
    rename_i a o
    cases o with
    | lst ds => obtain ⟨vs, q, r, _⟩ := w; exact .lst (.inl (.inl q)) (RpA.dp l ds vs r (by simpa [O.d, PyData.hasDict] using n))
    | dic kvs => simp [O.d, PyData.hasDict] at n
theorem CR.rpT {v : V} {ds : List D} (h : CR K Φ H v (.tuple ds)) : Rp K Φ v (.tuple ds) := by
  generalize e : PyData.tuple ds = d at h
  cases h with
  | fz r => exact r
  | own w => rename_i a o; cases o <;> cases e
theorem nodict_shaped {d : D} (h : SeqAt.shaped d = true) : d.hasDict = false := PyData.hasDict_of_canLay d (SeqAt.canLay_of_shaped h)
end

/-! ### == and != -/
def shp (d : D) : Bool := SeqAt.shaped d
def pEq (d e : D) : Option R := if (shp d && shp e) = true then some (.val (.bool (PyData.eqv d e))) else none
def pNe (d e : D) : Option R := if (shp d && shp e) = true then some (.val (.bool (!PyData.eqv d e))) else none
section
variable {T : Tx} {N : List Str} {sc : Scope} {cold top : Bool} {k : Nat} {X : Cx} {W : WX}
theorem o_eq : ∀ X W, Fx T N sc cold top k X W → OpR X (compareOp .Eq) (rP2 T.K pEq) := fun X W F pins s σ H x y v u Q I rx ry ⟨Φ, d, e, r, l, hd, he, hp, q⟩ => by
  unfold pEq at hp
  split at hp
  · rename_i c
    rw [Bool.and_eq_true] at c
    cases hp
    refine op_eqD (by have := F.rm.un; omega) pins s σ H x y v u Q I rx ry ⟨d, e, ?_, ?_, c.1, c.2, q.val l (.bl _)⟩
    · rw [F.eK]; exact hd.dp l (nodict_shaped c.1)
    · rw [F.eK]; exact he.dp l (nodict_shaped c.2)
  · cases hp
theorem o_ne : ∀ X W, Fx T N sc cold top k X W → OpR X (compareOp .NotEq) (rP2 T.K pNe) := fun X W F pins s σ H x y v u Q I rx ry ⟨Φ, d, e, r, l, hd, he, hp, q⟩ => by
  unfold pNe at hp
  split at hp
  · rename_i c
    rw [Bool.and_eq_true] at c
    cases hp
    refine op_neD (by have := F.rm.un; omega) pins s σ H x y v u Q I rx ry ⟨d, e, ?_, ?_, c.1, c.2, q.val l (.bl _)⟩
    · rw [F.eK]; exact hd.dp l (nodict_shaped c.1)
    · rw [F.eK]; exact he.dp l (nodict_shaped c.2)
  · cases hp

/-! ### is, is not: of None, of bools -/
def pIs (d e : D) : Option R := match d, e with
  | .none, .none => some (.val (.bool true))
  | .bool a, .none => some (.val (.bool false))
  | .int _, .none => some (.val (.bool false))
  | .str _, .none => some (.val (.bool false))
  | .list _, .none => some (.val (.bool false))
  | .tuple _, .none => some (.val (.bool false))
  | .dict _, .none => some (.val (.bool false))
  | .bool a, .bool b => some (.val (.bool (decide (a = b))))
  | _, _ => none
def pIsNot (d e : D) : Option R := match pIs d e with
  | some (.val (.bool b)) => some (.val (.bool (!b)))
  | _ => none
theorem isnone_of {K : PySem.W.Frag} {Φ H : Hp} {v : V} {d : D} (h : CR K Φ H v d) (l : Le Φ H) : decide (v = .non) = match d with
    | .none => true
    | _ => false := by
  cases d with
  | none => cases h.none; rfl
  | bool b => cases h.bool; rfl
  | int b => cases h.int; rfl
  | str b => cases h.str; rfl
  | list b => obtain ⟨a, vs, rfl, _⟩ := h.list l; rfl
  | tuple b => obtain ⟨a, vs, rfl, _⟩ := h.tuple l; rfl
  | dict b => obtain ⟨a, rfl, _⟩ := h.dict l; rfl
theorem o_is : ∀ X W, Fx T N sc cold top k X W → OpR X (compareOp .Is) (rP2 T.K pIs) := fun X W F pins s σ H x y v u Q I rx ry ⟨Φ, d, e, r, l, hd, he, hp, q⟩ => by
  cases e with
  | none =>
    cases he.none
    refine op_isN pins s σ H x _ v u Q I rx ry ⟨rfl, ?_⟩
    rw [isnone_of hd l]
    cases d <;> (cases hp; exact q.val l (.bl _))
  | bool b =>
    cases d <;> first | cases hp | skip
    cases he.bool; cases hd.bool
    exact op_isBl pins s σ H _ _ v u Q I rx ry ⟨_, _, rfl, rfl, q.val l (.bl _)⟩
  | _ => cases d <;> cases hp
theorem o_isnot : ∀ X W, Fx T N sc cold top k X W → OpR X (compareOp .IsNot) (rP2 T.K pIsNot) := fun X W F pins s σ H x y v u Q I rx ry ⟨Φ, d, e, r, l, hd, he, hp, q⟩ => by
  cases e with
  | none =>
    cases he.none
    refine op_notN pins s σ H x _ v u Q I rx ry ⟨rfl, ?_⟩
    rw [isnone_of hd l]
    cases d <;> (cases hp; exact q.val l (.bl _))
  | bool b =>
    cases d <;> first | cases hp | skip
    cases he.bool; cases hd.bool
    exact op_notBl pins s σ H _ _ v u Q I rx ry ⟨_, _, rfl, rfl, q.val l (.bl _)⟩
  | _ => cases d <;> cases hp

/-! ### order: ints, texts, tuples of ints -/
def intsD : List D → Option (List Int)
  | [] => some []
  | .int i :: ds => (intsD ds).map (i :: ·)
  | _ :: _ => none
theorem intsD_eq : ∀ {ds : List D} {ns : List Int}, intsD ds = some ns → ds = ns.map .int
  | [], ns, h => by cases h; rfl
  | .int i :: ds, ns, h => by
    simp only [intsD] at h
    cases e : intsD ds with
    | none => rw [e] at h; cases h
    | some ms => rw [e] at h; cases h; simp [intsD_eq e]
  | .none :: _, _, h => by cases h
  | .bool _ :: _, _, h => by cases h
  | .str _ :: _, _, h => by cases h
  | .list _ :: _, _, h => by cases h
  | .tuple _ :: _, _, h => by cases h
  | .dict _ :: _, _, h => by cases h
def pLt (d e : D) : Option R := match d, e with
  | .int i, .int j => some (.val (.bool (decide (i < j))))
  | .str i, .str j => some (.val (.bool (decide (i.cps.toList < j.cps.toList))))
  | .tuple a, .tuple b => (intsD a).bind fun ns => (intsD b).bind fun ms => some (.val (.bool (HT.lexLt ns ms)))
  | _, _ => none
def pLe (d e : D) : Option R := match d, e with
  | .int i, .int j => some (.val (.bool (decide (i ≤ j))))
  | _, _ => none
def pGt (d e : D) : Option R := match d, e with
  | .int i, .int j => some (.val (.bool (decide (j < i))))
  | _, _ => none
def pGe (d e : D) : Option R := match d, e with
  | .int i, .int j => some (.val (.bool (decide (j ≤ i))))
  | _, _ => none
theorem CR.tupInts {K : PySem.W.Frag} {Φ H : Hp} {v : V} {ds : List D} {ns : List Int} (h : CR K Φ H v (.tuple ds)) (l : Le Φ H) (e : intsD ds = some ns) : ∃ a, v = .ref a ∧ SqT K H a (ns.map V.int) := by
  obtain ⟨a, vs, rfl, sq, ra, _⟩ := h.tuple l
  cases intsD_eq e
  cases RpA.ints ra
  exact ⟨a, rfl, sq⟩
theorem CR.lstInts {K : PySem.W.Frag} {Φ H : Hp} {v : V} {ds : List D} {ns : List Int} (h : CR K Φ H v (.list ds)) (l : Le Φ H) (e : intsD ds = some ns) : ∃ a, v = .ref a ∧ SqL K H a (ns.map V.int) := by
  obtain ⟨a, vs, rfl, sq, ra, _⟩ := h.list l
  cases intsD_eq e
  cases RpA.ints ra
  exact ⟨a, rfl, sq⟩
theorem o_lt : ∀ X W, Fx T N sc cold top k X W → OpR X (compareOp .Lt) (rP2 T.K pLt) := fun X W F pins s σ H x y v u Q I rx ry ⟨Φ, d, e, r, l, hd, he, hp, q⟩ => by
  unfold pLt at hp
  split at hp
  · cases hp; cases hd.int; cases he.int
    exact op_lt pins s σ H _ _ v u Q I rx ry ⟨_, _, rfl, rfl, q.val l (.bl _)⟩
  · cases hp; cases hd.str; cases he.str
    exact op_lt_str pins s σ H _ _ v u Q I rx ry ⟨_, _, rfl, rfl, q.val l (.bl _)⟩
  · rename_i a b
    cases e1 : intsD a with
    | none => rw [e1] at hp; cases hp
    | some ns =>
      cases e2 : intsD b with
      | none => rw [e1, e2] at hp; cases hp
      | some ms =>
        rw [e1, e2] at hp; cases hp
        obtain ⟨p, rfl, s1⟩ := hd.tupInts l e1
        obtain ⟨p2, rfl, s2⟩ := he.tupInts l e2
        exact op_ltT (by have := F.rm.un; omega) pins s σ H _ _ v u Q I rx ry ⟨p, p2, ns, ms, rfl, rfl, by rw [F.eK]; exact s1, by rw [F.eK]; exact s2, q.val l (.bl _)⟩
  · cases hp
theorem o_le : ∀ X W, Fx T N sc cold top k X W → OpR X (compareOp .LtE) (rP2 T.K pLe) := fun X W F pins s σ H x y v u Q I rx ry ⟨Φ, d, e, r, l, hd, he, hp, q⟩ => by
  unfold pLe at hp
  split at hp
  · cases hp; cases hd.int; cases he.int
    exact op_le pins s σ H _ _ v u Q I rx ry ⟨_, _, rfl, rfl, q.val l (.bl _)⟩
  · cases hp
theorem o_gt : ∀ X W, Fx T N sc cold top k X W → OpR X (compareOp .Gt) (rP2 T.K pGt) := fun X W F pins s σ H x y v u Q I rx ry ⟨Φ, d, e, r, l, hd, he, hp, q⟩ => by
  unfold pGt at hp
  split at hp
  · cases hp; cases hd.int; cases he.int
    exact op_gt pins s σ H _ _ v u Q I rx ry ⟨_, _, rfl, rfl, q.val l (.bl _)⟩
  · cases hp
theorem o_ge : ∀ X W, Fx T N sc cold top k X W → OpR X (compareOp .GtE) (rP2 T.K pGe) := fun X W F pins s σ H x y v u Q I rx ry ⟨Φ, d, e, r, l, hd, he, hp, q⟩ => by
  unfold pGe at hp
  split at hp
  · cases hp; cases hd.int; cases he.int
    exact op_ge pins s σ H _ _ v u Q I rx ry ⟨_, _, rfl, rfl, q.val l (.bl _)⟩
  · cases hp

/-! ### + - * // % -/
def szOk (n : Nat) : Bool := decide (n ≤ sizeLine)
def pAdd (d e : D) : Option R := match d, e with
  | .int i, .int j => some (.val (.int (i + j)))
  | .str x, .str y => if szOk (x.length + y.length) = true then some (.val (.str (x ++ y))) else none
  | .list a, .list b => if szOk (a.length + b.length) = true then some (.own (.lst (a ++ b))) else none
  | .tuple a, .tuple b => if szOk (a.length + b.length) = true then some (.val (.tuple (a ++ b))) else none
  | _, _ => none
def pSub (d e : D) : Option R := match d, e with
  | .int i, .int j => some (.val (.int (i - j)))
  | _, _ => none
def bit64 (i : Int) : Bool := absLe i 18446744073709551615
theorem bit64_of {i : Int} (h : bit64 i = true) : -(2 ^ 64) < i ∧ i < 2 ^ 64 := by
  have := absLe_iff.mp h
  omega
def pMul (d e : D) : Option R := match d, e with
  | .int i, .int j => if (bit64 i || bit64 j) = true then some (.val (.int (i * j))) else none
  | .list a, .int k => if (absLe k 9223372036854775807 && decide (a.length * k.toNat ≤ sizeLine)) = true then some (.own (.lst (List.replicate k.toNat a).flatten)) else none
  | .tuple a, .int k => if (absLe k 1000 && decide (a.length ≤ 1000)) = true then some (.val (.tuple (List.replicate k.toNat a).flatten)) else none
  | _, _ => none
def pDiv (d e : D) : Option R := match d, e with
  | .int i, .int j => if (decide (0 < j) && absLe j 1073741823) = true then some (.val (.int (i / j))) else none
  | _, _ => none
def pMod (d e : D) : Option R := match d, e with
  | .int i, .int j => if decide (0 < j) = true then some (.val (.int (i % j))) else none
  | _, _ => none
def pNeg (d : D) : Option R := match d with
  | .int i => some (.val (.int (-i)))
  | _ => none
theorem o_sub : ∀ X W, Fx T N sc cold top k X W → OpR X (binaryOp .Sub) (rP2 T.K pSub) := fun X W F pins s σ H x y v u Q I rx ry ⟨Φ, d, e, r, l, hd, he, hp, q⟩ => by
  unfold pSub at hp
  split at hp
  · cases hp; cases hd.int; cases he.int
    exact op_sub pins s σ H _ _ v u Q I rx ry ⟨_, _, rfl, rfl, q.val l (.int _)⟩
  · cases hp
theorem o_div : ∀ X W, Fx T N sc cold top k X W → OpR X (binaryOp .FloorDiv) (rP2 T.K pDiv) := fun X W F pins s σ H x y v u Q I rx ry ⟨Φ, d, e, r, l, hd, he, hp, q⟩ => by
  unfold pDiv at hp
  split at hp
  · split at hp
    · rename_i c
      cases hp; cases hd.int; cases he.int
      rw [Bool.and_eq_true, decide_eq_true_eq, absLe_iff] at c
      exact op_fdiv pins s σ H _ _ v u Q I rx ry ⟨_, _, rfl, rfl, ⟨c.1, by have := c.2.2; omega⟩, q.val l (.int _)⟩
    · cases hp
  · cases hp
theorem o_mod : ∀ X W, Fx T N sc cold top k X W → OpR X (binaryOp .Mod) (rP2 T.K pMod) := fun X W F pins s σ H x y v u Q I rx ry ⟨Φ, d, e, r, l, hd, he, hp, q⟩ => by
  unfold pMod at hp
  split at hp
  · split at hp
    · rename_i c
      cases hp; cases hd.int; cases he.int
      exact op_mod pins s σ H _ _ v u Q I rx ry ⟨_, _, rfl, rfl, of_decide_eq_true c, q.val l (.int _)⟩
    · cases hp
  · cases hp
theorem o_neg : ∀ X W, Fx T N sc cold top k X W → UnR X (unaryOp .USub) (rP1 T.K pNeg) := fun X W F pins s σ H x v Q I rx ⟨Φ, d, r, l, hd, hp, q⟩ => by
  unfold pNeg at hp
  split at hp
  · cases hp; cases hd.int
    exact un_neg pins s σ H _ v Q I rx ⟨_, rfl, q.val l (.int _)⟩
  · cases hp
theorem Inv.lstR {pins : List (Addr × Obj)} {σ : Sl} {H : Hp} {s : Shared} {l : Addr} {xs : List V} (I : Inv X pins σ H s) (hH : LsR X.K H l xs) : xs.length ≤ sizeLine ∧ ∃ (its : List Value) (n : Nat), Vals xs its ∧ xs.length = its.length ∧ s.heap.get? l = some { cls := .type "list", data := .seq its.toArray n } := by
  rcases hH with hH | ⟨its, n, h1, h2, h3⟩
  · obtain ⟨z, its, n, r, e⟩ := hH.ok I.hok
    exact ⟨z, its, n, r, r.length, e⟩
  · exact ⟨by rw [h3.length]; exact h2, its, n, h3, h3.length, I.kIn _ _ h1⟩
theorem o_add : ∀ X W, Fx T N sc cold top k X W → OpR X (binaryOp .Add) (rP2 T.K pAdd) := fun X W F pins s σ H x y v u Q I rx ry ⟨Φ, d, e, r, l, hd, he, hp, q⟩ => by
  unfold pAdd at hp
  split at hp
  · cases hp; cases hd.int; cases he.int
    exact op_add pins s σ H _ _ v u Q I rx ry ⟨_, _, rfl, rfl, q.val l (.int _)⟩
  · split at hp
    · rename_i c
      cases hp; cases hd.str; cases he.str
      exact op_add_str pins s σ H _ _ v u Q I rx ry ⟨_, _, rfl, rfl, of_decide_eq_true c, q.val l (.str _)⟩
    · cases hp
  · split at hp
    · rename_i a b c
      have c := of_decide_eq_true c
      cases hp
      obtain ⟨p, vs, rfl, s1, r1, z1⟩ := hd.listR l
      obtain ⟨p2, vs2, rfl, s2, r2, z2⟩ := he.listR l
      cases rx; cases ry
      obtain ⟨z, its, n, r, hl, e⟩ := Inv.lstR I (show LsR X.K H p vs by rw [F.eK]; exact s1)
      obtain ⟨z2, its2, n2, r2', hl2, e2⟩ := Inv.lstR I (show LsR X.K H p2 vs2 by rw [F.eK]; exact s2)
      have la := r1.length
      have lb := r2.length
      refine PySem.P.add_list e e2 ?_ (by rw [List.size_toArray, List.size_toArray]; omega)
      have ea : its.toArray ++ its2.toArray = (its ++ its2).toArray := by simp
      rw [ea]
      exact ⟨.ref _, _, I.lnew (t' := s.toks) (r.append r2') (by rw [List.length_append]; omega), rfl, q.lst l I.fresh (r1.append r2) (by rw [List.length_append]; exact c)⟩
    · cases hp
  · split at hp
    · rename_i a b c
      have c := of_decide_eq_true c
      cases hp
      obtain ⟨p, vs, rfl, s1, r1, z1⟩ := hd.tuple l
      obtain ⟨p2, vs2, rfl, s2, r2, z2⟩ := he.tuple l
      have la := r1.length
      have lb := r2.length
      refine op_catA pins s σ H _ _ v u Q I rx ry ⟨p, p2, vs, vs2, rfl, rfl, by rw [F.eK]; exact s1, by rw [F.eK]; exact s2, by omega, fun e => ?_, fun _ e => ?_, fun _ _ p hp => q.tup l hp (r1.append r2) (by rw [List.length_append]; exact c)⟩
      · subst e; cases r1
        exact q.val l he.rpT
      · subst e; cases r2
        rw [List.append_nil] at q
        exact q.val l hd.rpT
    · cases hp
  · cases hp
theorem tuple_mulSame (l : Addr) (items : Array Value) (n : Nat) (dd : Option Addr) (sl : Array (Option Value)) (x : Int) (u : Tok) (c0 : (decide (x < -(2 ^ 63)) || decide (x ≥ 2 ^ 63)) = false) (c1 : (items.isEmpty || x == 1) = true) :
    Meets (Builtin.«tuple.__mul__» ⟨[.ref l, .int x u], []⟩) (fun _ R s => s.heap.get? l = some { cls := .type "tuple", dict := dd, data := .seq items n, slots := sl } ∧ R (.ok (.ret (Value.ref l))) s) :=
  .of_wp fun prog w A R s h => by
    obtain ⟨hp, g, d, tk, os⟩ := s
    obtain ⟨hl, h⟩ := h
    have f1 := AutoSeq1.idx_int
    wp_walk using wpAny_loadPart' hl
    repeat (first
      | (refine wpAny_ite_false (decide_eq_false (by rw [c0]; exact Bool.false_ne_true)) ?_; wp_walk using wpAny_loadPart' hl)
      | (refine wpAny_ite_true (decide_eq_true c1) ?_; wp_walk using wpAny_loadPart' hl))
    exact ⟨_, rfl, h⟩
theorem tuple_mulZero (l : Addr) (items : Array Value) (n : Nat) (dd : Option Addr) (sl : Array (Option Value)) (x : Int) (u : Tok) (c0 : (decide (x < -(2 ^ 63)) || decide (x ≥ 2 ^ 63)) = false) (c1 : (items.isEmpty || x == 1) = false) (c2 : (decide (x ≤ 0) || items.isEmpty) = true) :
    Meets (Builtin.«tuple.__mul__» ⟨[.ref l, .int x u], []⟩) (fun _ R s => s.heap.get? l = some { cls := .type "tuple", dict := dd, data := .seq items n, slots := sl } ∧
      R (.ok (.ret (Value.ref s.heap.objs.size))) { s with heap := s.heap.push { cls := Value.type "tuple", data := Data.seq #[] }, toks := s.toks }) :=
  .of_wp fun prog w A R s h => by
    obtain ⟨hp, g, d, tk, os⟩ := s
    obtain ⟨hl, h⟩ := h
    have f1 := AutoSeq1.idx_int
    wp_walk using wpAny_loadPart' hl
    repeat (first
      | (refine wpAny_ite_false (decide_eq_false (by rw [c0]; exact Bool.false_ne_true)) ?_; wp_walk using wpAny_loadPart' hl)
      | (refine wpAny_ite_false (decide_eq_false (by rw [c1]; exact Bool.false_ne_true)) ?_; wp_walk using wpAny_loadPart' hl)
      | (refine wpAny_ite_true (decide_eq_true c2) ?_; wp_walk using wpAny_loadPart' hl))
    exact ⟨_, rfl, h⟩
end
end EV
end
section
set_option Elab.async false
set_option linter.all false
set_option maxRecDepth 100000
set_option autoImplicit false
/-! EV13: *, in, subscripts -/
namespace EV
open PySem PySem.Spec PyProof.Rows L2
section
variable {T : Tx} {N : List Str} {sc : Scope} {cold top : Bool} {k : Nat} {X : Cx} {W : WX}
theorem flat_rep_one {α : Type} (a : List α) : (List.replicate 1 a).flatten = a := by simp
theorem o_mul : ∀ X W, Fx T N sc cold top k X W → OpR X (binaryOp .Mult) (rP2 T.K pMul) := fun X W F pins s σ H x y v u Q I rx ry ⟨Φ, d, e, r, l, hd, he, hp, q⟩ => by
  unfold pMul at hp
  split at hp
  · split at hp
    · rename_i c
      cases hp; cases hd.int; cases he.int
      refine op_mul pins s σ H _ _ v u Q I rx ry ⟨_, _, rfl, rfl, ?_, q.val l (.int _)⟩
      rw [Bool.or_eq_true] at c
      exact c.imp bit64_of bit64_of
    · cases hp
  · split at hp
    · rename_i a k c
      rw [Bool.and_eq_true, decide_eq_true_eq, absLe_iff] at c
      obtain ⟨⟨h1, h2⟩, c⟩ := c
      have h1 : -(2 ^ 63) ≤ k := by omega
      have h2 : k < 2 ^ 63 := by omega
      cases hp; cases he.int
      obtain ⟨p, vs, rfl, s1, r1, z1⟩ := hd.listR l
      have la := r1.length
      cases rx
      obtain ⟨t, rfl⟩ := ry
      obtain ⟨z, its, n, r, hl, e⟩ := Inv.lstR I (show LsR X.K H p vs by rw [F.eK]; exact s1)
      have hlen : its.toArray.size * k.toNat ≤ sizeLine := by rw [List.size_toArray, ← hl, la]; exact c
      have hcap : ¬ its.toArray.size * k.toNat > (2 ^ 63 - 1) / 8 := by
        have : (sizeLine : Nat) ≤ (2 ^ 63 - 1) / 8 := by decide
        omega
      have hfit : ¬ (!Builtin.List.listFitsIndex k) = true := by
        rw [fitsIndex_both h1 h2]
        exact Bool.false_ne_true
      have hlong : ¬ Builtin.List.listTooLong (its.toArray.size * k.toNat) = true := by
        rw [notLongL hlen]
        exact Bool.false_ne_true
      have hnew : List.foldl (fun x1 x2 => x1 ++ x2) #[] (List.replicate (if its.toArray.isEmpty = true then 0 else k.toNat) its.toArray) = (List.replicate k.toNat its).flatten.toArray := by
        have f0 : ∀ m : Nat, List.foldl (fun x1 x2 => x1 ++ x2) #[] (List.replicate m its.toArray) = (List.replicate m its).flatten.toArray := fun m => size_rep its m
        rw [f0]
        cases its with
        | nil => simp
        | cons a b => simp
      refine wpAny_binaryOp_repeat_ref (T := "list") (U := "int") (by decide) ⟨_, e, rfl⟩ (fun s' => typeIs_int s' k t) noFill_list_mul PySem.F.fills_int_mul PySem.F.slot_int_rmul repeat_list PySem.F.slot_int_index.lookup
        (call_meets PySem.F.slot_int_rmul (typeIs_int s k t) PySem.F.entry_int_rmul (PySem.F.args_int_rmul_2 _ _) (int___rmul___int_list k t p its.toArray n)
          ⟨e, rfl, ⟨_, e, rfl⟩, call_meets PySem.F.slot_list_mul ⟨_, e, rfl⟩ PySem.F.entry_list_mul (PySem.F.args_list_mul_2 _ _) (AutoListH.list___mul___list_int_3 p its.toArray n k t hfit hcap hlong) ⟨e, ?_⟩⟩)
      rw [hnew]
      have z3 : (List.replicate k.toNat vs).flatten.length ≤ sizeLine := by rw [PyProof.Rows.lm_len_rep_flat, Nat.mul_comm, la]; exact c
      have z4 : (List.replicate k.toNat a).flatten.length ≤ sizeLine := by rw [PyProof.Rows.lm_len_rep_flat, Nat.mul_comm]; exact c
      exact ⟨.ref _, _, I.lnew (t' := s.toks) (r.rep k.toNat) z3, rfl, q.lst l I.fresh (r1.rep k.toNat) z4⟩
    · cases hp
  · split at hp
    · rename_i a k c
      rw [Bool.and_eq_true, decide_eq_true_eq, absLe_iff] at c
      obtain ⟨⟨h1, h2⟩, c⟩ := c
      have h1 : -1000 ≤ k := by omega
      have h2 : k ≤ 1000 := by omega
      cases hp; cases he.int
      obtain ⟨p, vs, rfl, s1, r1, z1⟩ := hd.tuple l
      have la := r1.length
      have z4 : (List.replicate k.toNat a).flatten.length ≤ sizeLine := by
        rw [PyProof.Rows.lm_len_rep_flat, sizeLine_eq]
        have : k.toNat * a.length ≤ 1000 * 1000 := Nat.mul_le_mul (by omega) c
        omega
      by_cases big : vs ≠ [] ∧ 2 ≤ k
      · exact op_repT pins s σ H _ _ v u Q I rx ry ⟨p, k, vs, rfl, rfl, by rw [F.eK]; exact s1, big.1, big.2, h2, by omega, fun p hp => q.tup l hp (r1.rep _) z4⟩
      · cases rx
        obtain ⟨t, rfl⟩ := ry
        obtain ⟨its, r, ⟨⟨cls, dd, data, sl⟩, ho, hc, n, hd⟩, hs⟩ := I.tuple (by rw [F.eK]; exact s1)
        simp only at hc hd
        subst hc hd
        have hle : its.length = vs.length := r.length.symm
        have c0 : (decide (k < -(2 ^ 63)) || decide (k ≥ 2 ^ 63)) = false := by
          rw [decide_eq_false (by omega), decide_eq_false (by omega)] <;> rfl
        by_cases same : vs = [] ∨ k = 1
        · have c1 : (its.toArray.isEmpty || k == 1) = true := by
            rcases same with e | e
            · subst e; cases r; rfl
            · subst e; simp
          refine wpAny_binaryOp_repeat_ref (T := "tuple") (U := "int") (by decide) ⟨_, ho, rfl⟩ (fun s' => typeIs_int s' k t) noFill_tuple_mul PySem.F.fills_int_mul PySem.F.slot_int_rmul repeat_tuple PySem.F.slot_int_index.lookup
            (call_meets PySem.F.slot_int_rmul (typeIs_int s k t) PySem.F.entry_int_rmul (PySem.F.args_int_rmul_2 _ _) (int_rmul_tuple k t p its.toArray n dd sl)
              ⟨ho, rfl, ⟨_, ho, rfl⟩, call_meets PySem.F.slot_tuple_mul ⟨_, ho, rfl⟩ PySem.F.entry_tuple_mul (PySem.F.args_tuple_mul_2 _ _) (tuple_mulSame p its.toArray n dd sl k t c0 c1) ⟨ho, ?_⟩⟩)
          have e : (List.replicate k.toNat a).flatten = a := by
            rcases same with e | e
            · subst e; cases r1; simp
            · subst e; simp
          rw [e] at q
          exact ⟨.ref p, H, I, rfl, q.val l hd.rpT⟩
        · have hne : vs ≠ [] := fun e => same (.inl e)
          have hk : k ≤ 0 := by
            by_cases h2 : 2 ≤ k
            · exact absurd ⟨hne, h2⟩ big
            · have : k ≠ 1 := fun e => same (.inr e)
              omega
          have hi : its.toArray.isEmpty = false := by
            cases its with
            | nil => exact absurd (List.eq_nil_of_length_eq_zero hle.symm) hne
            | cons a b => rfl
          have c1 : (its.toArray.isEmpty || k == 1) = false := by
            rw [hi, Bool.false_or]
            exact beq_eq_false_iff_ne.mpr (by omega)
          have c2 : (decide (k ≤ 0) || its.toArray.isEmpty) = true := by rw [decide_eq_true hk]; rfl
          refine wpAny_binaryOp_repeat_ref (T := "tuple") (U := "int") (by decide) ⟨_, ho, rfl⟩ (fun s' => typeIs_int s' k t) noFill_tuple_mul PySem.F.fills_int_mul PySem.F.slot_int_rmul repeat_tuple PySem.F.slot_int_index.lookup
            (call_meets PySem.F.slot_int_rmul (typeIs_int s k t) PySem.F.entry_int_rmul (PySem.F.args_int_rmul_2 _ _) (int_rmul_tuple k t p its.toArray n dd sl)
              ⟨ho, rfl, ⟨_, ho, rfl⟩, call_meets PySem.F.slot_tuple_mul ⟨_, ho, rfl⟩ PySem.F.entry_tuple_mul (PySem.F.args_tuple_mul_2 _ _) (tuple_mulZero p its.toArray n dd sl k t c0 c1 c2) ⟨ho, ?_⟩⟩)
          have e : k.toNat = 0 := by omega
          rw [e] at q
          refine ⟨.ref s.heap.objs.size, _, I.laid (t' := s.toks) (o := .tup []) (fun b ob q => Heap.get?_push_of_some _ q) (Nat.le_refl _) ?_, rfl, q.tup l (I.hok.fresh (Nat.le_refl _)) .nil (Nat.zero_le _)⟩
          exact ⟨Nat.zero_le _, [], .nil, IsTup.new _ _⟩
    · cases hp
  · cases hp

/-! ### dicts by keys -/
def keyD : D → Option Key
  | .int i => some (.inl i)
  | .str x => some (.inr x)
  | _ => none
def keysD : List D → Option (List Key)
  | [] => some []
  | d :: ds => (keyD d).bind fun k => (keysD ds).map (k :: ·)
/-- keys of the one kind -/
inductive KS where
  | one (k : Key) | tup (ks : List Key)
def ksD : D → Option KS
  | .tuple ds => (keysD ds).map .tup
  | d => (keyD d).map .one
theorem keyD_eq {d : D} {k : Key} (h : keyD d = some k) : d = kD k := by
  cases d <;> cases h <;> rfl
theorem keysD_eq : ∀ {ds : List D} {ks : List Key}, keysD ds = some ks → ds = ks.map kD
  | [], ks, h => by cases h; rfl
  | d :: ds, ks, h => by
    simp only [keysD] at h
    cases e : keyD d with
    | none => rw [e] at h; cases h
    | some k =>
      cases e2 : keysD ds with
      | none => rw [e, e2] at h; cases h
      | some ks' => rw [e, e2] at h; cases h; simp [keyD_eq e, ← keysD_eq e2]
theorem eqv_kD (a b : Key) : PyData.eqv (kD a) (kD b) = decide (a = b) := by
  cases a <;> cases b <;> simp [kD, PyData.eqv]
  · exact Bool.eq_iff_iff.mpr (by simp)
  · exact Bool.eq_iff_iff.mpr (by simp)
theorem eqvAll_kD : ∀ (a b : List Key), PyData.eqvAll (a.map kD) (b.map kD) = decide (a = b)
  | [], [] => by simp [PyData.eqvAll]
  | [], b :: bs => by simp [PyData.eqvAll]
  | a :: as, [] => by simp [PyData.eqvAll]
  | a :: as, b :: bs => by
    simp only [List.map_cons, PyData.eqvAll, eqv_kD, eqvAll_kD as bs, List.cons.injEq]
    by_cases h : a = b <;> by_cases h2 : as = bs <;> simp [h, h2]
theorem eqv_kTD (a b : List Key) : PyData.eqv (kTD a) (kTD b) = decide (a = b) := by
  simp only [kTD, PyData.eqv, eqvAll_kD]
/-- a table by keys, as data -/
structure KF (κ : Type) [DecidableEq κ] where
  f : κ → D
  inj : ∀ a b, PyData.eqv (f a) (f b) = decide (a = b)
def kfK : KF Key := ⟨kD, eqv_kD⟩
def kfT : KF (List Key) := ⟨kTD, eqv_kTD⟩
section
variable {κ : Type} [DecidableEq κ] {K : PySem.W.Frag} {Φ : Hp} (f : KF κ)
theorem dget_of : ∀ {ws : List (κ × V)} {kvs : List (D × D)} {k : κ}, RpK K Φ (ws.map fun w => (f.f w.1, w.2)) kvs →
    (∃ v d, valV ws k = some v ∧ dget kvs (f.f k) = some d ∧ Rp K Φ v d) ∨ (valV ws k = none ∧ dget kvs (f.f k) = none)
  | [], _, k, .nil => .inr ⟨rfl, rfl⟩
  | w :: ws, _, k, .cons r t => by
    by_cases h : w.1 = k
    · refine .inl ⟨_, _, valV_pos h, ?_, r⟩
      simp [dget, eqk, f.inj, h]
    · rename_i d kvs
      have e : dget ((f.f w.1, d) :: kvs) (f.f k) = dget kvs (f.f k) := by rw [dget, eqk, f.inj, decide_eq_false h, if_neg Bool.false_ne_true]
      show (∃ v d', valV (w :: ws) k = some v ∧ dget ((f.f w.1, d) :: kvs) (f.f k) = some d' ∧ Rp K Φ v d') ∨ (valV (w :: ws) k = none ∧ dget ((f.f w.1, d) :: kvs) (f.f k) = none)
      rw [valV_neg h, e]
      exact dget_of t
end
/-- in its place, or at the end -/
def dput (kvs : List (D × D)) (x v : D) : List (D × D) :=
  if (kvs.any fun kv => eqk kv.1 x) = true then kvs.map (fun kv => if eqk kv.1 x = true then (kv.1, v) else kv) else kvs ++ [(x, v)]
section
variable {κ : Type} [DecidableEq κ] {K : PySem.W.Frag} {Φ : Hp} (f : KF κ)
theorem RpK.any {ws : List (κ × V)} {k : κ} : ∀ {kvs : List (D × D)}, RpK K Φ (ws.map fun w => (f.f w.1, w.2)) kvs → (kvs.any fun kv => eqk kv.1 (f.f k)) = ws.any fun kv => decide (kv.1 = k) := by
  induction ws with
  | nil => intro kvs h; cases h; rfl
  | cons w ws ih =>
    intro kvs h
    cases h with
    | cons r t => rw [List.any_cons, List.any_cons, ih t, eqk, f.inj]
theorem RpK.repl {ws : List (κ × V)} {k : κ} {v : V} {d : D} (rv : Rp K Φ v d) : ∀ {kvs : List (D × D)}, RpK K Φ (ws.map fun w => (f.f w.1, w.2)) kvs →
    RpK K Φ ((ws.map fun kv => if kv.1 = k then (kv.1, v) else kv).map fun w => (f.f w.1, w.2)) (kvs.map fun kv => if eqk kv.1 (f.f k) = true then (kv.1, d) else kv) := by
  induction ws with
  | nil => intro kvs h; cases h; exact .nil
  | cons w ws ih =>
    intro kvs h
    cases h with
    | cons r t =>
      simp only [List.map_cons, eqk, f.inj]
      by_cases e : w.1 = k
      · simp only [e, decide_true, if_true]; exact .cons rv (ih t)
      · simp only [e, decide_false, if_false, Bool.false_eq_true]; exact .cons r (ih t)
theorem RpK.snoc {k : D} {v : V} {d : D} (rv : Rp K Φ v d) : ∀ {ws : List (D × V)} {kvs : List (D × D)}, RpK K Φ ws kvs → RpK K Φ (ws ++ [(k, v)]) (kvs ++ [(k, d)])
  | [], _, .nil => .cons rv .nil
  | _ :: _, _, .cons r t => .cons r (RpK.snoc rv t)
theorem RpK.put {ws : List (κ × V)} {k : κ} {v : V} {d : D} {kvs : List (D × D)} (rv : Rp K Φ v d) (h : RpK K Φ (ws.map fun w => (f.f w.1, w.2)) kvs) : RpK K Φ ((putK ws k v).map fun w => (f.f w.1, w.2)) (dput kvs (f.f k) d) := by
  unfold putK dput
  rw [RpK.any f h]
  split
  · exact RpK.repl f rv h
  · rw [List.map_append]; exact RpK.snoc rv h
theorem RpK.length : ∀ {ws : List (D × V)} {kvs : List (D × D)}, RpK K Φ ws kvs → ws.length = kvs.length
  | [], _, .nil => rfl
  | _ :: _, _, .cons _ t => congrArg (· + 1) (RpK.length t)
end

/-- a dict that is read -/
def DicR (K : PySem.W.Frag) (Φ H : Hp) (a : Addr) (kvs : List (D × D)) : Prop :=
  (∃ ws, Rd H a (.dK ws) ∧ RpK K Φ (ws.map fun w => (kD w.1, w.2)) kvs) ∨ (∃ ws, Rd H a (.dT ws) ∧ RpK K Φ (ws.map fun w => (kTD w.1, w.2)) kvs)
theorem OwnR.dicR {K : PySem.W.Frag} {Φ H : Hp} {a : Addr} {kvs : List (D × D)} (h : OwnR K Φ H a (.dic kvs)) : DicR K Φ H a kvs := by
  rcases h with ⟨ws, e, r⟩ | ⟨ws, e, r⟩
  · exact .inl ⟨ws, .inl e, r⟩
  · exact .inr ⟨ws, .inl e, r⟩
def headKS : List (D × D) → Option Bool
  | [] => none
  | (.tuple _, _) :: _ => some true
  | _ => some false
/-- the key's kind is the dict's -/
def ksOk (kvs : List (D × D)) : KS → Bool
  | .one _ => headKS kvs != some true
  | .tup _ => headKS kvs != some false
section
variable {K : PySem.W.Frag} {Φ H : Hp}
theorem RpA.keys {vs : List V} : ∀ {ks : List Key}, RpA K Φ vs (ks.map kD) → vs = ks.map kV := by
  induction vs with
  | nil => intro ks h; cases ks with
    | nil => rfl
    | cons n ns => cases h
  | cons v vs ih => intro ks h; cases ks with
    | nil => cases h
    | cons n ns => cases h with | cons a b => cases n <;> (cases a; simp [ih b, kV])
theorem CR.key {v : V} {d : D} {k : Key} (h : CR K Φ H v d) (e : keyD d = some k) : v = kV k := by
  cases d <;> first | cases e | skip
  · cases h.int; rfl
  · cases h.str; rfl
theorem CR.keyT {v : V} {ds : List D} {ks : List Key} (h : CR K Φ H v (.tuple ds)) (l : Le Φ H) (e : keysD ds = some ks) : ∃ b, v = .ref b ∧ H b = some (.tup (ks.map kV)) := by
  obtain ⟨a, vs, rfl, sq, ra, _⟩ := h.tupR l
  cases keysD_eq e
  cases RpA.keys ra
  exact ⟨a, rfl, sq⟩
end
/-- an empty dict is one of either kind -/
theorem dt_empty {P : Program} {w : World} {H : Hp} {h : Heap} {a : Addr} (x : ObjOk P w H h a (.dK [])) : ObjOk P w H h a (.dT []) := by
  obtain ⟨z, y, vs, r, o, es, ep, h1, h2, h3, h4, h5, h6⟩ := (show ([] : List (Key × V)).length ≤ sizeLine ∧ (a == sysModules) = false ∧ ∃ vs, KV [] vs ∧ h.DictOf (mixKind P w) a vs from x)
  cases r
  have e : es.toList = [] := by
    have := Pairs.length h5
    exact List.eq_nil_of_length_eq_zero this
  exact ⟨Nat.zero_le _, y, [], .nil, o, es, ep, h1, h2, h3, by rw [e]; rfl, by simp⟩
theorem dk_empty {P : Program} {w : World} {H : Hp} {h : Heap} {a : Addr} (x : ObjOk P w H h a (.dT [])) : ObjOk P w H h a (.dK []) := by
  obtain ⟨z, y, xs, r, o, es, ep, h1, h2, h3, h4, h5⟩ := (show ([] : List (List Key × V)).length ≤ sizeLine ∧ (a == sysModules) = false ∧ ∃ xs : List (List Key × Addr × Value),
      Paired (fun (p : List Key × V) (q : List Key × Addr × Value) => p.1 = q.1 ∧ H q.2.1 = some (.tup (p.1.map kV)) ∧ RelV p.2 q.2.2) [] xs ∧
      ∃ o es ep, h.get? a = some o ∧ o.ExactDict ∧ o.data = .dict es ep ∧ es.toList = xs.map (entryOfKey (tupleKind (mixKind P w))) ∧ (xs.map (·.1)).Nodup from x)
  cases r
  have e : es.toList = [] := by rw [h4]; rfl
  refine ⟨Nat.zero_le _, y, [], .nil, o, es, ep, h1, h2, h3, ?_, ?_, by simp⟩
  · intro e' he
    rw [← Array.mem_toList_iff, e] at he
    cases he
  · rw [e]; exact .nil
end
end EV
end
section
set_option Elab.async false
set_option linter.all false
set_option maxRecDepth 100000
set_option autoImplicit false
/-! EV14: dicts read, in, subscripts -/
namespace EV
open PySem PySem.Spec PyProof.Rows L2
def dlook (kvs : List (D × D)) (x : D) : Option (Option D) := (ksD x).bind fun ks => if ksOk kvs ks = true then some (dget kvs x) else none
inductive RelR (K : PySem.W.Frag) (Φ : Hp) : Option V → Option D → Prop
  | none : RelR K Φ none none
  | some {v : V} {d : D} : Rp K Φ v d → RelR K Φ (some v) (some d)
section
variable {T : Tx} {N : List Str} {sc : Scope} {cold top : Bool} {k : Nat} {X : Cx} {W : WX}
variable {pins : List (Addr × Obj)} {σ : Sl} {H Φ : Hp} {s : Shared}
theorem RelR.get {κ : Type} [DecidableEq κ] {K : PySem.W.Frag} (f : KF κ) {ws : List (κ × V)} {kvs : List (D × D)} {k : κ} (h : RpK K Φ (ws.map fun w => (f.f w.1, w.2)) kvs) : RelR K Φ (valV ws k) (dget kvs (f.f k)) := by
  rcases dget_of f (k := k) h with ⟨v, d, h1, h2, h3⟩ | ⟨h1, h2⟩
  · rw [h1, h2]; exact .some h3
  · rw [h1, h2]; exact .none
theorem d_look {K : PySem.W.Frag} {a : Addr} {y : V} {kvs : List (D × D)} {x : D} {r : Option D} (h : DicR K Φ H a kvs) (hy : CR K Φ H y x) (l : Le Φ H) (e : dlook kvs x = some r) :
    (∃ o, DGet H a y o ∧ RelR K Φ o r) ∨ (kvs = [] ∧ r = none ∧ ((Rd H a (.dK []) ∧ ∃ (b : Addr) (ks : List Key), y = .ref b ∧ H b = some (.tup (ks.map kV))) ∨ (Rd H a (.dT []) ∧ ∃ k, y = kV k))) := by
  unfold dlook at e
  cases e1 : ksD x with
  | none => rw [e1] at e; cases e
  | some ks =>
    simp only [e1, Option.bind] at e
    split at e
    · rename_i hk
      cases e
      cases ks with
      | one k =>
        have e2 : keyD x = some k := by
          cases x <;> simp only [ksD] at e1 <;> first
            | (cases q : keyD _ with
               | none => rw [q] at e1; cases e1
               | some z => rw [q] at e1; cases e1; rfl)
            | (cases q : keysD _ with
               | none => rw [q] at e1; cases e1
               | some z => rw [q] at e1; cases e1)
        cases hy.key e2
        have ex := keyD_eq e2
        rcases h with ⟨ws, h1, h2⟩ | ⟨ws, h1, h2⟩
        · refine .inl ⟨valV ws k, .inl ⟨ws, k, h1, rfl, rfl⟩, ?_⟩
          rw [ex]; exact RelR.get kfK h2
        · cases ws with
          | nil => cases h2; exact .inr ⟨rfl, rfl, .inr ⟨h1, k, rfl⟩⟩
          | cons w ws =>
            cases h2
            simp only [ksOk, headKS, kTD] at hk
            exact absurd hk (by decide)
      | tup ks =>
        cases x <;> simp only [ksD] at e1 <;> try (simp [keyD] at e1; done)
        rename_i ds
        cases q : keysD ds with
        | none => rw [q] at e1; cases e1
        | some ks' =>
          rw [q] at e1; cases e1
          obtain ⟨b, rfl, hb⟩ := hy.keyT l q
          have ex := keysD_eq q
          rcases h with ⟨ws, h1, h2⟩ | ⟨ws, h1, h2⟩
          · cases ws with
            | nil => cases h2; exact .inr ⟨rfl, rfl, .inl ⟨h1, b, ks, rfl, hb⟩⟩
            | cons w ws =>
              cases h2
              obtain ⟨wk, wv⟩ := w
              cases wk <;> (simp only [ksOk, headKS, kD] at hk; exact absurd hk (by decide))
          · refine .inl ⟨valV ws ks, .inr ⟨ws, ks, b, h1, rfl, hb, rfl⟩, ?_⟩
            rw [ex]; exact RelR.get kfT h2
    · cases e
theorem rel_isSome {K : PySem.W.Frag} {o : Option V} {r : Option D} (h : RelR K Φ o r) : o.isSome = r.isSome := by cases h <;> rfl
theorem dIn_of {K : PySem.W.Frag} {a : Addr} {y : V} {u : Value} {kvs : List (D × D)} {x : D} {r : Option D} {A : Around} {E : Value → Shared → Prop} {Q : Value → Shared → Prop} (hu : A.units + 1 < cLine) (I : Inv X pins σ H s) (h : DicR K Φ H a kvs) (hy : CR K Φ H y x) (l : Le Φ H) (e : dlook kvs x = some r) (ry : RelV y u)
    (hq : ∀ s', Inv X pins σ H s' → Q (.bool r.isSome) s') : wpAny (model X.prog X.w) A (compareOp .In u (.ref a)) Q E s := by
  rcases d_look h hy l e with ⟨o, g, rr⟩ | ⟨rfl, rfl, ⟨h1, b, ks, rfl, hb⟩ | ⟨h1, k, rfl⟩⟩
  · rw [← rel_isSome rr] at hq; exact d_in hu I g ry hq
  · cases (show u = Value.ref b from ry)
    obtain ⟨z, hd, xs, rel, o, es, ep, q1, q2, q3, q4, q5⟩ := dt_empty (rd_of I.hok h1)
    cases rel
    exact wpAny_in_heap (knd := tupleKind (mixKind X.prog X.w)) (xs := []) (tupleKind_room_in1 hu) (key_of I.hok hb) hd ⟨o, es, ep, q1, q2, q3, q4, by simp, q5⟩ (hq _ (I.tok _))
  · obtain ⟨z, hd, vs, rel, dd⟩ := dk_empty (rd_of I.hok h1)
    cases rel
    exact wpAny_in_of (kV_is ry) hd dd.mapOf (hq _ (I.tok _))
theorem dNotIn_of {K : PySem.W.Frag} {a : Addr} {y : V} {u : Value} {kvs : List (D × D)} {x : D} {r : Option D} {A : Around} {E : Value → Shared → Prop} {Q : Value → Shared → Prop} (hu : A.units + 1 < cLine) (I : Inv X pins σ H s) (h : DicR K Φ H a kvs) (hy : CR K Φ H y x) (l : Le Φ H) (e : dlook kvs x = some r) (ry : RelV y u)
    (hq : ∀ s', Inv X pins σ H s' → Q (.bool (!r.isSome)) s') : wpAny (model X.prog X.w) A (compareOp .NotIn u (.ref a)) Q E s := by
  rcases d_look h hy l e with ⟨o, g, rr⟩ | ⟨rfl, rfl, ⟨h1, b, ks, rfl, hb⟩ | ⟨h1, k, rfl⟩⟩
  · rw [← rel_isSome rr] at hq; exact d_notIn hu I g ry hq
  · cases (show u = Value.ref b from ry)
    obtain ⟨z, hd, xs, rel, o, es, ep, q1, q2, q3, q4, q5⟩ := dt_empty (rd_of I.hok h1)
    cases rel
    exact wpAny_notIn_heap (knd := tupleKind (mixKind X.prog X.w)) (xs := []) (tupleKind_room_in1 hu) (key_of I.hok hb) hd ⟨o, es, ep, q1, q2, q3, q4, by simp, q5⟩ (hq _ (I.tok _))
  · obtain ⟨z, hd, vs, rel, dd⟩ := dk_empty (rd_of I.hok h1)
    cases rel
    exact wpAny_notIn_of (kV_is ry) hd dd.mapOf (hq _ (I.tok _))
theorem CR.dictR {K : PySem.W.Frag} {v : V} {kvs : List (D × D)} (h : CR K Φ H v (.dict kvs)) (l : Le Φ H) : ∃ a, v = .ref a ∧ DicR K Φ H a kvs := by
  obtain ⟨a, h1, h2⟩ := h.dict l
  exact ⟨a, h1, h2.dicR⟩

/-! ### in, not in -/
def inD (d e : D) : Option Bool := match e with
  | .list ds => if (shp d && shp (.list ds)) = true then some (ds.any fun z => PyData.eqv z d) else none
  | .tuple ds => if (shp d && shp (.tuple ds)) = true then some (ds.any fun z => PyData.eqv z d) else none
  | .str z => match d with
    | .str y => some (!(Builtin.Str.occurrences z y 0 z.length 1).isEmpty)
    | _ => none
  | .dict kvs => (dlook kvs d).map Option.isSome
  | _ => none
def pIn (d e : D) : Option R := (inD d e).map fun b => .val (.bool b)
def pNotIn (d e : D) : Option R := (inD d e).map fun b => .val (.bool (!b))
theorem o_in : ∀ X W, Fx T N sc cold top k X W → OpR X (compareOp .In) (rP2 T.K pIn) := fun X W F pins s σ H x y v u Q I rx ry ⟨Φ, d, e, r, l, hd, he, hp, q⟩ => by
  unfold pIn at hp
  cases eb : inD d e with
  | none => rw [eb] at hp; cases hp
  | some b =>
    rw [eb] at hp; cases hp
    unfold inD at eb
    split at eb
    · split at eb
      · rename_i c
        cases eb
        rw [Bool.and_eq_true] at c
        refine op_inD (by have := F.rm.un; omega) pins s σ H x y v u Q I rx ry ⟨_, _, ?_, ?_, c.1, c.2, q.val l (.bl _)⟩
        · rw [F.eK]; exact hd.dp l (nodict_shaped c.1)
        · rw [F.eK]; exact he.dp l (nodict_shaped c.2)
      · cases eb
    · split at eb
      · rename_i ds c
        cases eb
        rw [Bool.and_eq_true] at c
        have h1 := hd.dp l (nodict_shaped c.1)
        have h2 := he.dp l (nodict_shaped c.2)
        rw [← F.eK] at h1 h2
        obtain ⟨as, r1⟩ := Dp.reads I _ x v h1 rx
        obtain ⟨bs, r2⟩ := Dp.reads I _ y u h2 ry
        exact SeqAt.in_tuple_reads r2 r1 (SeqAt.canLay_of_shaped c.2) (SeqAt.canLay_of_shaped c.1) (room_in_shaped c.1 (by have := F.rm.un; omega)) ⟨.bl _, H, I, rfl, q.val l (.bl _)⟩
      · cases eb
    · split at eb
      · cases eb; cases hd.str; cases he.str
        exact op_in_str pins s σ H _ _ v u Q I rx ry ⟨_, _, rfl, rfl, q.val l (.bl _)⟩
      · cases eb
    · rename_i kvs
      cases el : dlook kvs d with
      | none => rw [el] at eb; cases eb
      | some r =>
        rw [el] at eb; cases eb
        obtain ⟨a, rfl, w⟩ := he.dictR l
        cases ry
        exact dIn_of (by have := F.rm.un; omega) I w hd l el rx fun s' I' => ⟨.bl _, H, I', rfl, q.val l (.bl _)⟩
    · cases eb
theorem o_notin : ∀ X W, Fx T N sc cold top k X W → OpR X (compareOp .NotIn) (rP2 T.K pNotIn) := fun X W F pins s σ H x y v u Q I rx ry ⟨Φ, d, e, r, l, hd, he, hp, q⟩ => by
  unfold pNotIn at hp
  cases eb : inD d e with
  | none => rw [eb] at hp; cases hp
  | some b =>
    rw [eb] at hp; cases hp
    unfold inD at eb
    split at eb
    · split at eb
      · rename_i c
        cases eb
        rw [Bool.and_eq_true] at c
        refine op_notInD (by have := F.rm.un; omega) pins s σ H x y v u Q I rx ry ⟨_, _, ?_, ?_, c.1, c.2, q.val l (.bl _)⟩
        · rw [F.eK]; exact hd.dp l (nodict_shaped c.1)
        · rw [F.eK]; exact he.dp l (nodict_shaped c.2)
      · cases eb
    · split at eb
      · rename_i ds c
        cases eb
        rw [Bool.and_eq_true] at c
        have h1 := hd.dp l (nodict_shaped c.1)
        have h2 := he.dp l (nodict_shaped c.2)
        rw [← F.eK] at h1 h2
        obtain ⟨as, r1⟩ := Dp.reads I _ x v h1 rx
        obtain ⟨bs, r2⟩ := Dp.reads I _ y u h2 ry
        exact SeqAt.notIn_tuple_reads r2 r1 (SeqAt.canLay_of_shaped c.2) (SeqAt.canLay_of_shaped c.1) (room_in_shaped c.1 (by have := F.rm.un; omega)) ⟨.bl _, H, I, rfl, q.val l (.bl _)⟩
      · cases eb
    · split at eb
      · cases eb; cases hd.str; cases he.str
        refine op_notin_str pins s σ H _ _ v u Q I rx ry ⟨_, _, rfl, rfl, q.val l (.bl _)⟩
      · cases eb
    · rename_i kvs
      cases el : dlook kvs d with
      | none => rw [el] at eb; cases eb
      | some r =>
        rw [el] at eb; cases eb
        obtain ⟨a, rfl, w⟩ := he.dictR l
        cases ry
        exact dNotIn_of (by have := F.rm.un; omega) I w hd l el rx fun s' I' => ⟨.bl _, H, I', rfl, q.val l (.bl _)⟩
    · cases eb

/-! ### subscripts -/
def pSub1 (d e : D) : Option R := match d with
  | .list ds => match e with
    | .int i => (atI ds i).map .val
    | _ => none
  | .tuple ds => match e with
    | .int i => (atI ds i).map .val
    | _ => none
  | .str z => match e with
    | .int i => if szOk z.length = true then (atI z.cps.toList i).map fun c => .val (.str ⟨#[c]⟩) else none
    | _ => none
  | .dict kvs => ((dlook kvs e).bind id).map .val
  | _ => none
theorem atI_rp {K : PySem.W.Frag} {vs : List V} {ds : List D} {i : Int} {d : D} (r : RpA K Φ vs ds) (e : atI ds i = some d) : ∃ v, atI vs i = some v ∧ Rp K Φ v d := by
  unfold atI at e ⊢
  rw [r.length]
  cases q : ixN ds.length i with
  | none => rw [q] at e; cases e
  | some j => rw [q] at e; exact r.get e
theorem o_ix : ∀ X W, Fx T N sc cold top k X W → IxR X (rP2 T.K pSub1) := fun X W F value slice pins s σ H x y v u Q I rx ry ⟨Φ, d, e, r, l, hd, he, hp, q⟩ hs => by
  unfold pSub1 at hp
  split at hp
  · split at hp
    · rename_i ds _ i
      cases ea : atI ds i with
      | none => rw [ea] at hp; cases hp
      | some z =>
        rw [ea] at hp; cases hp
        cases he.int
        obtain ⟨p, vs, rfl, sq, ra, _⟩ := hd.list l
        obtain ⟨w, e1, e2⟩ := atI_rp ra ea
        exact ix_list value slice pins s σ H _ _ v u Q I rx ry ⟨p, vs, i, w, rfl, rfl, by rw [F.eK]; exact sq, e1, q.val l e2⟩ hs
    · cases hp
  · split at hp
    · rename_i ds _ i
      cases ea : atI ds i with
      | none => rw [ea] at hp; cases hp
      | some z =>
        rw [ea] at hp; cases hp
        cases he.int
        obtain ⟨p, vs, rfl, sq, ra, _⟩ := hd.tuple l
        obtain ⟨w, e1, e2⟩ := atI_rp ra ea
        exact ix_tup value slice pins s σ H _ _ v u Q I rx ry ⟨p, vs, i, w, rfl, rfl, by rw [F.eK]; exact sq, e1, q.val l e2⟩ hs
    · cases hp
  · split at hp
    · rename_i z _ i
      split at hp
      · rename_i c
        cases ea : atI z.cps.toList i with
        | none => rw [ea] at hp; cases hp
        | some w =>
          rw [ea] at hp; cases hp
          cases he.int; cases hd.str
          exact ix_str value slice pins s σ H _ _ v u Q I rx ry ⟨z, i, w, rfl, rfl, of_decide_eq_true c, ea, q.val l (.str _)⟩ hs
      · cases hp
    · cases hp
  · rename_i kvs
    cases el : dlook kvs e with
    | none => rw [el] at hp; cases hp
    | some o =>
      cases o with
      | none => rw [el] at hp; cases hp
      | some d' =>
        rw [el] at hp; cases hp
        obtain ⟨a, rfl, w⟩ := hd.dictR l
        cases rx
        rcases d_look w he l el with ⟨o, g, rr⟩ | ⟨_, z, _⟩
        · cases rr with
          | some r' =>
            refine tail_any (dict_typeIs I g) PySem.F.slot_dict_getitem.lookup ?_ hs
            exact d_getItem (by have := F.rm.un; omega) I g ry fun w' s' I' rw' => ⟨_, H, I', rw', q.val l r'⟩
        · cases z
  · cases hp
end
end EV
end
section
set_option Elab.async false
set_option linter.all false
set_option maxRecDepth 100000
set_option autoImplicit false
/-! EV15: calls of built-ins -/
namespace EV
open PySem PySem.Spec PyProof.Rows L2
open PySem.W (alike alikeAll dataLt keyToks)
section
variable {K : PySem.W.Frag} {Φ H : Hp}
theorem CRs.one {vs : List V} {d : D} (h : CRs K Φ H vs [d]) : ∃ v, vs = [v] ∧ CR K Φ H v d := by
  cases h with | cons a b => cases b; exact ⟨_, rfl, a⟩
theorem CRs.two {vs : List V} {d e : D} (h : CRs K Φ H vs [d, e]) : ∃ v u, vs = [v, u] ∧ CR K Φ H v d ∧ CR K Φ H u e := by
  cases h with | cons a b => cases b with | cons b c => cases c; exact ⟨_, _, rfl, a, b⟩
theorem RpA.each {pins : List (Addr × Obj)} {σ : Sl} {s : Shared} {X : Cx} (I : Inv X pins σ H s) (l : Le Φ H) : ∀ {vs : List V} {ds : List D} {us : List Value}, RpA X.K Φ vs ds → PyData.hasDictAll ds = false → Vals vs us →
    PySem.W.EachIs (fun u d => ∃ v as, RelV v u ∧ Rp X.K Φ v d ∧ Reads s.heap u d as) us ds
  | _, _, _, .nil, _, .nil => .nil
  | _, d :: ds, _, .cons a b, n, .cons r t => by
    have n' : d.hasDict = false ∧ PyData.hasDictAll ds = false := by simpa [PyData.hasDictAll] using n
    obtain ⟨as, q⟩ := Dp.reads I _ _ _ (Rp.dp l _ _ a n'.1) r
    exact .cons ⟨_, as, r, a, q⟩ (RpA.each I l b n'.2 t)
end
theorem eachIs_imp {α β : Type} {P Q : α → β → Prop} (h : ∀ a b, P a b → Q a b) : ∀ {as : List α} {bs : List β}, PySem.W.EachIs P as bs → PySem.W.EachIs Q as bs
  | _, _, .nil => .nil
  | _, _, .cons a b => .cons (h _ _ a) (eachIs_imp h b)
theorem eachIs_rp {K : PySem.W.Frag} {Φ : Hp} : ∀ {us : List Value} {ds : List D}, PySem.W.EachIs (fun u d => ∃ v, RelV v u ∧ Rp K Φ v d) us ds → ∃ vs, Vals vs us ∧ RpA K Φ vs ds
  | _, _, .nil => ⟨[], .nil, .nil⟩
  | _, _, .cons ⟨v, r, q⟩ b => by
    obtain ⟨vs, h1, h2⟩ := eachIs_rp b
    exact ⟨v :: vs, .cons r h1, .cons q h2⟩

/-! ### < of alike data -/
def isNone : D → Bool
  | .none => true
  | _ => false
def pLtD (d e : D) : Option R := if (alike d e && !isNone d && shp d && shp e) = true then some (.val (.bool (dataLt d e))) else none
section
variable {T : Tx} {N : List Str} {sc : Scope} {cold top : Bool} {k : Nat} {X : Cx} {W : WX}
theorem o_ltD : ∀ X W, Fx T N sc cold top k X W → OpR X (compareOp .Lt) (rP2 T.K pLtD) := fun X W F pins s σ H x y v u Q I rx ry ⟨Φ, d, e, r, l, hd, he, hp, q⟩ => by
  unfold pLtD at hp
  split at hp
  · rename_i c
    simp only [Bool.and_eq_true] at c
    obtain ⟨⟨⟨c1, c2⟩, c3⟩, c4⟩ := c
    cases hp
    have h1 := hd.dp l (nodict_shaped c3)
    have h2 := he.dp l (nodict_shaped c4)
    rw [← F.eK] at h1 h2
    obtain ⟨as, r1⟩ := Dp.reads I _ x v h1 rx
    obtain ⟨bs, r2⟩ := Dp.reads I _ y u h2 ry
    have z : wpAny (model X.prog X.w) X.A (richCompare .Lt v u) (EP X pins σ Q) X.xe s := PySem.W.rcLt_alike d e X.A s v u as bs r1 r2 c1 (fun z => by subst z; cases c2) (SeqAt.room_of_shaped c3 (by have := F.rm.un; omega)) _ _ _ _ ⟨.bl _, H, I, rfl, q.val l (.bl _)⟩
    exact z
  · cases hp

/-! ### len, list, tuple, int, abs -/
def pLen (ds : List D) : Option R := match ds with
  | [.list xs] => some (.val (.int xs.length))
  | [.tuple xs] => some (.val (.int xs.length))
  | [.str z] => if szOk z.length = true then some (.val (.int z.length)) else none
  | [.dict kvs] => some (.val (.int kvs.length))
  | _ => none
theorem c_len : ∀ X W, Fx T N sc cold top k X W → CallR X (.builtin "len") (rPn T.K pLen) := fun X W F pins s σ H xs us Q I r ⟨Φ, ds, q0, l, hd, hp, q⟩ => by
  unfold pLen at hp
  split at hp
  · cases hp
    obtain ⟨v, rfl, hv⟩ := hd.one
    obtain ⟨a, vs, rfl, sq, ra, _⟩ := hv.list l
    exact call_len_seq pins s σ H _ us Q I r ⟨a, vs, rfl, .inl (by rw [F.eK]; exact sq), by rw [ra.length]; exact q.val l (.int _)⟩
  · cases hp
    obtain ⟨v, rfl, hv⟩ := hd.one
    obtain ⟨a, vs, rfl, sq, ra, _⟩ := hv.tuple l
    exact call_len_seq pins s σ H _ us Q I r ⟨a, vs, rfl, .inr (by rw [F.eK]; exact sq), by rw [ra.length]; exact q.val l (.int _)⟩
  · split at hp
    · rename_i c
      cases hp
      obtain ⟨v, rfl, hv⟩ := hd.one
      cases hv.str
      exact call_len_str pins s σ H _ us Q I r ⟨_, rfl, of_decide_eq_true c, q.val l (.int _)⟩
    · cases hp
  · rename_i kvs
    cases hp
    obtain ⟨v, rfl, hv⟩ := hd.one
    obtain ⟨a, rfl, w⟩ := hv.dictR l
    obtain ⟨u, rfl, rx⟩ := vals1 r
    cases rx
    rcases w with ⟨ws, e, rk⟩ | ⟨ws, e, rk⟩
    · have hl := rk.length; rw [List.length_map] at hl
      refine d_len I e fun t s' I' => ⟨.int ws.length, H, I', ⟨_, rfl⟩, ?_⟩
      rw [hl]; exact q.val l (.int _)
    · have hl := rk.length; rw [List.length_map] at hl
      obtain ⟨z, hd, ys, rel, dd⟩ := dt_rd I.hok e
      have hl2 : ws.length = ys.length := Paired.length rel
      refine call_len_dictH hd dd (by rw [← hl2]; rw [sizeLine_eq] at z; omega) ?_
      rw [← hl2, hl]
      exact ⟨.int ((kvs.length : Nat) : Int), H, I.tok _, ⟨_, rfl⟩, q.val l (.int _)⟩
  · cases hp
def pTuple (ds : List D) : Option R := match ds with
  | [.list xs] => some (.val (.tuple xs))
  | [.tuple xs] => some (.val (.tuple xs))
  | _ => none
theorem c_tuple : ∀ X W, Fx T N sc cold top k X W → CallR X (.type "tuple") (rPn T.K pTuple) := fun X W F pins s σ H xs us Q I r ⟨Φ, ds, q0, l, hd, hp, q⟩ => by
  unfold pTuple at hp
  split at hp
  · cases hp
    obtain ⟨v, rfl, hv⟩ := hd.one
    obtain ⟨a, vs, rfl, sq, ra, z⟩ := hv.list l
    exact call_tuple_of pins s σ H _ us Q I r ⟨a, vs, rfl, .inl ⟨by rw [F.eK]; exact sq, fun p hp => q.tup l hp ra z⟩⟩
  · cases hp
    obtain ⟨v, rfl, hv⟩ := hd.one
    obtain ⟨a, vs, rfl, sq, ra, z⟩ := hv.tuple l
    exact call_tuple_of pins s σ H _ us Q I r ⟨a, vs, rfl, .inr ⟨by rw [F.eK]; exact sq, q.val l hv.rpT⟩⟩
  · cases hp
def pList (ds : List D) : Option R := match ds with
  | [.list xs] => some (.own (.lst xs))
  | [.tuple xs] => some (.own (.lst xs))
  | _ => none
theorem c_list : ∀ X W, Fx T N sc cold top k X W → CallR X (.type "list") (rPn T.K pList) := fun X W F pins s σ H xs us Q I r ⟨Φ, ds, q0, l, hd, hp, q⟩ => by
  unfold pList at hp
  split at hp
  · cases hp
    obtain ⟨v, rfl, hv⟩ := hd.one
    obtain ⟨a, vs, rfl, sq, ra, z⟩ := hv.list l
    exact call_list_of pins s σ H _ us Q I r ⟨a, vs, rfl, .inl (by rw [F.eK]; exact sq), fun p hp => q.lst l hp ra z⟩
  · cases hp
    obtain ⟨v, rfl, hv⟩ := hd.one
    obtain ⟨a, vs, rfl, sq, ra, z⟩ := hv.tuple l
    exact call_list_of pins s σ H _ us Q I r ⟨a, vs, rfl, .inr (by rw [F.eK]; exact sq), fun p hp => q.lst l hp ra z⟩
  · cases hp
def pInt (ds : List D) : Option R := match ds with
  | [.int i] => some (.val (.int i))
  | [.bool b] => some (.val (.int (if b then 1 else 0)))
  | _ => none
theorem c_int : ∀ X W, Fx T N sc cold top k X W → CallR X (.type "int") (rPn T.K pInt) := fun X W F pins s σ H xs us Q I r ⟨Φ, ds, q0, l, hd, hp, q⟩ => by
  unfold pInt at hp
  split at hp
  · cases hp
    obtain ⟨v, rfl, hv⟩ := hd.one
    cases hv.int
    exact call_int1 pins s σ H _ us Q I r (.inl ⟨_, rfl, q.val l (.int _)⟩)
  · cases hp
    obtain ⟨v, rfl, hv⟩ := hd.one
    cases hv.bool
    exact call_int1 pins s σ H _ us Q I r (.inr ⟨_, rfl, q.val l (.int _)⟩)
  · cases hp
def pAbs (ds : List D) : Option R := match ds with
  | [.int i] => some (.val (.int (if i < 0 then -i else i)))
  | _ => none
theorem c_abs : ∀ X W, Fx T N sc cold top k X W → CallR X (.builtin "abs") (rPn T.K pAbs) := fun X W F pins s σ H xs us Q I r ⟨Φ, ds, q0, l, hd, hp, q⟩ => by
  unfold pAbs at hp
  split at hp
  · cases hp
    obtain ⟨v, rfl, hv⟩ := hd.one
    cases hv.int
    exact call_abs pins s σ H _ us Q I r ⟨_, rfl, q.val l (.int _)⟩
  · cases hp

/-! ### all, any, sum, max, min -/
def boolsD : List D → Option (List Bool)
  | [] => some []
  | .bool i :: ds => (boolsD ds).map (i :: ·)
  | _ :: _ => none
theorem boolsD_eq : ∀ {ds : List D} {ns : List Bool}, boolsD ds = some ns → ds = ns.map .bool
  | [], ns, h => by cases h; rfl
  | .bool i :: ds, ns, h => by
    simp only [boolsD] at h
    cases e : boolsD ds with
    | none => rw [e] at h; cases h
    | some ms => rw [e] at h; cases h; simp [boolsD_eq e]
  | .none :: _, _, h => by cases h
  | .int _ :: _, _, h => by cases h
  | .str _ :: _, _, h => by cases h
  | .list _ :: _, _, h => by cases h
  | .tuple _ :: _, _, h => by cases h
  | .dict _ :: _, _, h => by cases h
def pAll (ds : List D) : Option R := match ds with
  | [.list xs] => (boolsD xs).map fun bs => .val (.bool (bs.all id))
  | _ => none
def pAny (ds : List D) : Option R := match ds with
  | [.list xs] => (boolsD xs).map fun bs => .val (.bool (bs.any id))
  | _ => none
theorem CR.lstBools {K : PySem.W.Frag} {Φ H : Hp} {v : V} {ds : List D} {ns : List Bool} (h : CR K Φ H v (.list ds)) (l : Le Φ H) (e : boolsD ds = some ns) : ∃ a, v = .ref a ∧ SqL K H a (ns.map V.bl) := by
  obtain ⟨a, vs, rfl, sq, ra, _⟩ := h.list l
  cases boolsD_eq e
  cases RpA.bools ra
  exact ⟨a, rfl, sq⟩
theorem c_all : ∀ X W, Fx T N sc true top k X W → CallR X (.builtin "all") (rPn T.K pAll) := fun X W F pins s σ H xs us Q I r ⟨Φ, ds, q0, l, hd, hp, q⟩ => by
  unfold pAll at hp
  split at hp
  · rename_i xs
    cases e : boolsD xs with
    | none => rw [e] at hp; cases hp
    | some bs =>
      rw [e] at hp; cases hp
      obtain ⟨v, rfl, hv⟩ := hd.one
      obtain ⟨a, rfl, sq⟩ := hv.lstBools l e
      exact cr_all (F.cal rfl).1 pins s σ H _ us Q I r ⟨a, bs, rfl, by rw [F.eK]; exact sq, q.val l (.bl _)⟩
  · cases hp
theorem c_any : ∀ X W, Fx T N sc true top k X W → CallR X (.builtin "any") (rPn T.K pAny) := fun X W F pins s σ H xs us Q I r ⟨Φ, ds, q0, l, hd, hp, q⟩ => by
  unfold pAny at hp
  split at hp
  · rename_i xs
    cases e : boolsD xs with
    | none => rw [e] at hp; cases hp
    | some bs =>
      rw [e] at hp; cases hp
      obtain ⟨v, rfl, hv⟩ := hd.one
      obtain ⟨a, rfl, sq⟩ := hv.lstBools l e
      exact cr_any (F.cal rfl).1 pins s σ H _ us Q I r ⟨a, bs, rfl, by rw [F.eK]; exact sq, q.val l (.bl _)⟩
  · cases hp
/-- a new iterator over a tuple -/
theorem iter_tup {prog : Program} {w : World} {A : Around} {E : Value → Shared → Prop} {s : Shared} {l : Addr} {items : Array Value} {Q : Value → Shared → Prop} (hl : IsTup s.heap l items)
    (h : ∀ s₂ : Shared, s₂ = { s with heap := s.heap.push { cls := .type "tuple_iterator", data := .fields #[.ref l, .int 0 0] } } →
      (s₂.heap.IsTupleIter s.heap.objs.size l 0 ∧ s₂.heap.IsTuple l items) → (∀ b ∈ [s.heap.objs.size, l], b < s₂.heap.objs.size) → l ≠ s.heap.objs.size → Q (.ref s.heap.objs.size) s₂) : wpAny (model prog w) A (pyIter (.ref l)) Q E s := by
  have hlt : l < s.heap.objs.size := by obtain ⟨_, e, _⟩ := hl; exact Heap.lt_size e
  have ht : s.heap.IsTuple l items := hl
  refine wpAny_pyIter_tuple ht (h _ rfl ⟨⟨_, Heap.get?_push_size _ rfl, rfl, rfl⟩, ht.at fun o e => Heap.get?_push_of_some _ e⟩ (fun b hb => ?_) (Nat.ne_of_lt hlt))
  show b < (s.heap.push _).objs.size
  rw [Heap.size_push]
  rcases List.mem_cons.mp hb with rfl | hb
  · exact Nat.lt_succ_self _
  · rcases List.mem_cons.mp hb with rfl | hb
    · exact Nat.lt_succ_of_lt hlt
    · cases hb
/-- a walk over a list or tuple that is read -/
theorem walk_seq {X : Cx} {pins : List (Addr × Obj)} {σ : Sl} {H : Hp} {s : Shared} {a : Addr} {xs : List V} {A : Around} {E : Value → Shared → Prop} {Q : Value → Shared → Prop} (hh : A.handled = none) (I : Inv X pins σ H s) (sq : SqL X.K H a xs ∨ SqT X.K H a xs)
    (h : ∀ (its : List Value) (s₂ : Shared) (St : Nat → Heap → Prop), Vals xs its → Walks X.prog X.w A s.heap.objs.size [s.heap.objs.size, a] [s.heap.objs.size] its.toArray.size (fun i v => its.toArray[i]? = some v) St → St 0 s₂.heap → (∀ b ∈ [s.heap.objs.size, a], b < s₂.heap.objs.size) →
      (∀ h' tk, (∀ b o, b ∉ [s.heap.objs.size] → s₂.heap.get? b = some o → h'.get? b = some o) → Inv X pins σ H { s₂ with heap := h', toks := tk }) → Q (.ref s.heap.objs.size) s₂) : wpAny (model X.prog X.w) A (pyIter (.ref a)) Q E s := by
  have old : ∀ (ob : Obj) h' tk, (∀ b o, b ∉ [s.heap.objs.size] → (s.heap.push ob).get? b = some o → h'.get? b = some o) → Inv X pins σ H { s with heap := h', toks := tk } := fun ob h' tk hk => I.kept fun b o e => hk b o (fun hm => by
    rcases List.mem_cons.mp hm with e1 | hm
    · exact absurd (e1 ▸ Heap.lt_size e) (Nat.lt_irrefl _)
    · cases hm) (Heap.get?_push_of_some _ e)
  rcases sq with sq | sq
  · obtain ⟨its, rv, hl, _⟩ := I.list sq
    have hl' := hl.isList
    have hlt : a < s.heap.objs.size := by obtain ⟨_, e, _⟩ := hl'; exact Heap.lt_size e
    refine wpAny_pyIter_list hl' (h its _ _ rv (Walks.list hh _ a (Nat.ne_of_lt hlt) its.toArray) ⟨⟨_, Heap.get?_push_size _ rfl, rfl, rfl⟩, hl'.push _⟩ (fun b hb => ?_) (fun h' tk hk => old _ h' tk hk))
    show b < (s.heap.push _).objs.size
    rw [Heap.size_push]
    rcases List.mem_cons.mp hb with rfl | hb
    · exact Nat.lt_succ_self _
    · rcases List.mem_cons.mp hb with rfl | hb
      · exact Nat.lt_succ_of_lt hlt
      · cases hb
  · obtain ⟨its, rv, hl, _⟩ := I.tuple sq
    refine iter_tup hl fun s₂ e st hfp hne => ?_
    subst e
    exact h its _ _ rv (Walks.tuple hh _ a hne its.toArray) st hfp fun h' tk hk => old _ h' tk hk
def maxI (ns : List Int) : Int := ns.foldl (fun a b => if b > a then b else a) (ns.headD 0)
def minI (ns : List Int) : Int := ns.foldl (fun a b => if b < a then b else a) (ns.headD 0)
theorem foldmax : ∀ (ns : List Int) (a : Int), (ns.foldl (fun a b => if b > a then b else a) a = a ∨ ns.foldl (fun a b => if b > a then b else a) a ∈ ns) ∧ a ≤ ns.foldl (fun a b => if b > a then b else a) a ∧ ∀ x ∈ ns, x ≤ ns.foldl (fun a b => if b > a then b else a) a
  | [], a => ⟨.inl rfl, Int.le_refl _, fun x h => by cases h⟩
  | n :: ns, a => by
    obtain ⟨h1, h2, h3⟩ := foldmax ns (if n > a then n else a)
    simp only [List.foldl_cons]
    refine ⟨?_, ?_, fun x hx => ?_⟩
    · rcases h1 with h1 | h1
      · rw [h1]
        split
        · exact .inr (List.mem_cons_self ..)
        · exact .inl rfl
      · exact .inr (List.mem_cons_of_mem _ h1)
    · refine Int.le_trans ?_ h2; split <;> omega
    · rcases List.mem_cons.mp hx with rfl | hx
      · refine Int.le_trans ?_ h2; split <;> omega
      · exact h3 x hx
theorem foldmin : ∀ (ns : List Int) (a : Int), (ns.foldl (fun a b => if b < a then b else a) a = a ∨ ns.foldl (fun a b => if b < a then b else a) a ∈ ns) ∧ ns.foldl (fun a b => if b < a then b else a) a ≤ a ∧ ∀ x ∈ ns, ns.foldl (fun a b => if b < a then b else a) a ≤ x
  | [], a => ⟨.inl rfl, Int.le_refl _, fun x h => by cases h⟩
  | n :: ns, a => by
    obtain ⟨h1, h2, h3⟩ := foldmin ns (if n < a then n else a)
    simp only [List.foldl_cons]
    refine ⟨?_, ?_, fun x hx => ?_⟩
    · rcases h1 with h1 | h1
      · rw [h1]
        split
        · exact .inr (List.mem_cons_self ..)
        · exact .inl rfl
      · exact .inr (List.mem_cons_of_mem _ h1)
    · refine Int.le_trans h2 ?_; split <;> omega
    · rcases List.mem_cons.mp hx with rfl | hx
      · refine Int.le_trans h2 ?_; split <;> omega
      · exact h3 x hx
theorem maxI_eq {ns : List Int} {m : Int} (h : m ∈ ns) (a : ∀ x ∈ ns, x ≤ m) : m = maxI ns := by
  cases ns with
  | nil => cases h
  | cons n ns =>
    obtain ⟨h1, h2, h3⟩ := foldmax (n :: ns) n
    have e : maxI (n :: ns) = (n :: ns).foldl (fun a b => if b > a then b else a) n := rfl
    rw [e]
    have := h3 m h
    have : (n :: ns).foldl (fun a b => if b > a then b else a) n ≤ m := by
      rcases h1 with h1 | h1
      · rw [h1]; exact a n (List.mem_cons_self ..)
      · exact a _ h1
    omega
theorem minI_eq {ns : List Int} {m : Int} (h : m ∈ ns) (a : ∀ x ∈ ns, m ≤ x) : m = minI ns := by
  cases ns with
  | nil => cases h
  | cons n ns =>
    obtain ⟨h1, h2, h3⟩ := foldmin (n :: ns) n
    have e : minI (n :: ns) = (n :: ns).foldl (fun a b => if b < a then b else a) n := rfl
    rw [e]
    have := h3 m h
    have : m ≤ (n :: ns).foldl (fun a b => if b < a then b else a) n := by
      rcases h1 with h1 | h1
      · rw [h1]; exact a n (List.mem_cons_self ..)
      · exact a _ h1
    omega
/-- an int of a walk -/
theorem ints_at' {ns : List Int} {its : List Value} (r : Vals (ns.map V.int) its) : ∀ (i : Nat) (v : Value), its.toArray[i]? = some v → ∃ t, v = .int (ns.getD i 0) t := fun i v h => by
  have h' : its[i]? = some v := by simpa using h
  have hi := r.length
  have hl : i < ns.length := by
    obtain ⟨h1, _⟩ := List.getElem?_eq_some_iff.mp h'
    rw [List.length_map] at hi; omega
  obtain ⟨u, hu, ru⟩ := r.get (i := i) (x := .int (ns.getD i 0)) (by rw [List.getElem?_map, List.getElem?_eq_getElem hl]; simp [List.getD_eq_getElem?_getD, hl])
  rw [h'] at hu; cases hu
  exact ru
def intsSeq (d : D) : Option (List Int) := match d with
  | .list xs => intsD xs
  | .tuple xs => intsD xs
  | _ => none
theorem CR.ints {K : PySem.W.Frag} {Φ H : Hp} {v : V} {d : D} {ns : List Int} (h : CR K Φ H v d) (l : Le Φ H) (e : intsSeq d = some ns) : ∃ a, v = .ref a ∧ (SqL K H a (ns.map V.int) ∨ SqT K H a (ns.map V.int)) := by
  cases d with
  | list xs => obtain ⟨a, h1, h2⟩ := h.lstInts l e; exact ⟨a, h1, .inl h2⟩
  | tuple xs => obtain ⟨a, h1, h2⟩ := h.tupInts l e; exact ⟨a, h1, .inr h2⟩
  | _ => cases e
def pMax (ds : List D) : Option R := match ds with
  | [d] => (intsSeq d).bind fun ns => if ns.isEmpty = true then none else some (.val (.int (maxI ns)))
  | [.int i, .int j] => some (.val (.int (if j > i then j else i)))
  | _ => none
def pMin (ds : List D) : Option R := match ds with
  | [d] => (intsSeq d).bind fun ns => if ns.isEmpty = true then none else some (.val (.int (minI ns)))
  | [.int i, .int j] => some (.val (.int (if j < i then j else i)))
  | _ => none
def pSum (ds : List D) : Option R := match ds with
  | [d] => (intsSeq d).map fun ns => .val (.int ns.sum)
  | _ => none
theorem c_max : ∀ X W, Fx T N sc true top k X W → CallR X (.builtin "max") (rPn T.K pMax) := fun X W F pins s σ H xs us Q I r ⟨Φ, ds, q0, l, hd, hp, q⟩ => by
  unfold pMax at hp
  split at hp
  · rename_i d
    cases e : intsSeq d with
    | none => rw [e] at hp; cases hp
    | some ns =>
      simp only [e, Option.bind] at hp
      split at hp
      · cases hp
      · rename_i ne
        cases hp
        obtain ⟨v, rfl, hv⟩ := hd.one
        obtain ⟨a, rfl, sq⟩ := hv.ints l e
        obtain ⟨u, rfl, rx⟩ := vals1 r
        cases rx
        have hh := I.ok.hd (F.cal rfl).1
        refine call_max_walk (walk_seq (A := X.A.in1) hh I (by rw [F.eK]; exact sq) fun its s₂ St rv Wk st fp kk => ?_)
        have hlen := rv.length
        rw [List.length_map] at hlen
        have hn : 0 < ns.length := by
          cases ns with
          | nil => exact absurd rfl ne
          | cons a b => simp
        refine ⟨_, _, _, _, _, _, _, rfl, Wk, st, fp, by rw [List.size_toArray, ← hlen]; exact hn, CmpOf.ints_gt (fun i => ns.getD i 0) (ints_at' rv), fun v h' tk hP hk => ?_⟩
        obtain ⟨t, rfl⟩ := ints_at' rv _ _ hP
        obtain ⟨g1, g2⟩ := argBest_gt (fun i => ns.getD i 0) (its.toArray.size - 1)
        refine ⟨.int _, H, kk h' tk hk, ⟨t, rfl⟩, ?_⟩
        rw [maxI_eq (ns := ns) (m := ns.getD (argBest (fun i j => decide (ns.getD i 0 > ns.getD j 0)) (its.toArray.size - 1)) 0)]
        · exact q.val l (.int _)
        · exact PySem.getD_mem (by rw [List.size_toArray] at g1 ⊢; omega)
        · intro x hx
          obtain ⟨j, hj, rfl⟩ := mem_getD hx
          exact g2 j (by rw [List.size_toArray]; omega)
  · rename_i i j
    cases hp
    obtain ⟨v, u, rfl, hv, hu⟩ := hd.two
    cases hv.int; cases hu.int
    exact call_max2 (F.cal rfl).1 pins s σ H _ us Q I r ⟨i, j, rfl, q.val l (.int _)⟩
  · cases hp
theorem c_min : ∀ X W, Fx T N sc true top k X W → CallR X (.builtin "min") (rPn T.K pMin) := fun X W F pins s σ H xs us Q I r ⟨Φ, ds, q0, l, hd, hp, q⟩ => by
  unfold pMin at hp
  split at hp
  · rename_i d
    cases e : intsSeq d with
    | none => rw [e] at hp; cases hp
    | some ns =>
      simp only [e, Option.bind] at hp
      split at hp
      · cases hp
      · rename_i ne
        cases hp
        obtain ⟨v, rfl, hv⟩ := hd.one
        obtain ⟨a, rfl, sq⟩ := hv.ints l e
        obtain ⟨u, rfl, rx⟩ := vals1 r
        cases rx
        have hh := I.ok.hd (F.cal rfl).1
        refine call_min_walk (walk_seq (A := X.A.in1) hh I (by rw [F.eK]; exact sq) fun its s₂ St rv Wk st fp kk => ?_)
        have hlen := rv.length
        rw [List.length_map] at hlen
        have hn : 0 < ns.length := by
          cases ns with
          | nil => exact absurd rfl ne
          | cons a b => simp
        refine ⟨_, _, _, _, _, _, _, rfl, Wk, st, fp, by rw [List.size_toArray, ← hlen]; exact hn, CmpOf.ints_lt (fun i => ns.getD i 0) (ints_at' rv), fun v h' tk hP hk => ?_⟩
        obtain ⟨t, rfl⟩ := ints_at' rv _ _ hP
        obtain ⟨g1, g2⟩ := argBest_lt (fun i => ns.getD i 0) (its.toArray.size - 1)
        refine ⟨.int _, H, kk h' tk hk, ⟨t, rfl⟩, ?_⟩
        rw [minI_eq (ns := ns) (m := ns.getD (argBest (fun i j => decide (ns.getD i 0 < ns.getD j 0)) (its.toArray.size - 1)) 0)]
        · exact q.val l (.int _)
        · exact PySem.getD_mem (by rw [List.size_toArray] at g1 ⊢; omega)
        · intro x hx
          obtain ⟨j, hj, rfl⟩ := mem_getD hx
          exact g2 j (by rw [List.size_toArray]; omega)
  · rename_i i j
    cases hp
    obtain ⟨v, u, rfl, hv, hu⟩ := hd.two
    cases hv.int; cases hu.int
    exact call_min2 (F.cal rfl).1 pins s σ H _ us Q I r ⟨i, j, rfl, q.val l (.int _)⟩
  · cases hp
theorem preSum_ns : ∀ (ns : List Int) (n : Nat), n = ns.length → preSum (fun i => ns.getD i 0) n = ns.sum := fun ns n hn => by
  have key : ∀ j, preSum (fun i => ns.getD i 0) j = (ns.take j).sum := fun j => by
    induction j with
    | zero => simp [preSum]
    | succ j ih =>
      rw [preSum, ih, List.take_succ, List.sum_append, List.getD_eq_getElem?_getD]
      cases ns[j]? <;> simp
  rw [key, hn, List.take_length]
theorem c_sum : ∀ X W, Fx T N sc true top k X W → CallR X (.builtin "sum") (rPn T.K pSum) := fun X W F pins s σ H xs us Q I r ⟨Φ, ds, q0, l, hd, hp, q⟩ => by
  unfold pSum at hp
  split at hp
  · rename_i d
    cases e : intsSeq d with
    | none => rw [e] at hp; cases hp
    | some ns =>
      rw [e] at hp
      cases hp
      obtain ⟨v, rfl, hv⟩ := hd.one
      obtain ⟨a, rfl, sq⟩ := hv.ints l e
      obtain ⟨u, rfl, rx⟩ := vals1 r
      cases rx
      have hh := I.ok.hd (F.cal rfl).1
      refine call_sum_walkG (walk_seq (A := X.A.in1) hh I (by rw [F.eK]; exact sq) fun its s₂ St rv Wk st fp kk => ?_)
      have hlen := rv.length
      rw [List.length_map] at hlen
      refine ⟨_, _, _, _, _, _, _, rfl, Wk, st, fp, ints_at' rv, fun h' tk t' hk => ?_⟩
      rw [preSum_ns ns _ (by rw [List.size_toArray, hlen])]
      exact ⟨.int _, H, kk h' tk hk, ⟨t', rfl⟩, q.val l (.int _)⟩
  · cases hp
end
end EV
end
section
set_option Elab.async false
set_option linter.all false
set_option maxRecDepth 100000
set_option autoImplicit false
/-! EV16: methods that change, subscript stores, update -/
namespace EV
open PySem PySem.Spec PyProof.Rows L2
section
variable {T : Tx} {N : List Str} {sc : Scope} {cold top : Bool} {k : Nat} {X : Cx} {W : WX}
theorem upd_off {H : Hp} {a : Addr} {u : HO} : ∀ b, b ≠ a → upd H a u b = H b := fun b h => upd_ne h
section
variable {K : PySem.W.Frag} {Φ H : Hp}
theorem RpA.one' {vs : List V} {d : D} (h : RpA K Φ vs [d]) : ∃ v, vs = [v] ∧ Rp K Φ v d := by
  cases h with | cons a b => cases b; exact ⟨_, rfl, a⟩
theorem RpA.two' {vs : List V} {d e : D} (h : RpA K Φ vs [d, e]) : ∃ v u, vs = [v, u] ∧ Rp K Φ v d ∧ Rp K Φ u e := by
  cases h with | cons a b => cases b with | cons b c => cases c; exact ⟨_, _, rfl, a, b⟩
end
def mAppend (o : O) (ds : List D) : Option (D × O) := match o, ds with
  | .lst xs, [d] => if decide (xs.length < sizeLine) = true then some (.none, .lst (xs ++ [d])) else none
  | _, _ => none
theorem m_append : ∀ X W, Fx T N sc cold top k X W → MtR X "list.append" (rMut T.K mAppend) := fun X W F pins s σ H x xs v us Q I rx rs ⟨Φ, a, o, ds, r, o', l, hx, n, w, hd, hp, q⟩ => by
  subst hx
  unfold mAppend at hp
  split at hp
  · split at hp
    · rename_i c
      have c := of_decide_eq_true c
      cases hp
      obtain ⟨y, rfl, ry⟩ := hd.one'
      obtain ⟨vs, e, ra, z⟩ := w
      have hl := ra.length
      exact mt_append pins s σ H _ _ v us Q I rx rs ⟨a, vs, y, rfl, rfl, e, by omega, q _ _ upd_off ⟨_, upd_same, ra.append (.one ry), by rw [List.length_append]; exact c⟩ .non⟩
    · cases hp
  · cases hp
def mExtend (o : O) (ds : List D) : Option (D × O) := match o, ds with
  | .lst xs, [.list ys] => if szOk (xs.length + ys.length) = true then some (.none, .lst (xs ++ ys)) else none
  | _, _ => none
theorem m_extend : ∀ X W, Fx T N sc cold top k X W → MtR X "list.extend" (rMut T.K mExtend) := fun X W F pins s σ H x xs v us Q I rx rs ⟨Φ, a, o, ds, r, o', l, hx, n, w, hd, hp, q⟩ => by
  subst hx
  unfold mExtend at hp
  split at hp
  · split at hp
    · rename_i c
      have c := of_decide_eq_true c
      cases hp
      obtain ⟨y, rfl, ry⟩ := hd.one'
      obtain ⟨vs, e, ra, z⟩ := w
      have hl := ra.length
      obtain ⟨b, vs2, rfl, hB, rb, z2⟩ := (CR.fz ry : CR T.K Φ H y _).listR l
      have hl2 := rb.length
      cases rx
      obtain ⟨u, rfl, ru⟩ := rs.one
      cases ru
      obtain ⟨z, its, n', r, hlx, e'⟩ := I.lstM e
      obtain ⟨z2, its2, n2, r2, hl2', e2⟩ := Inv.lstR I (show LsR X.K H b vs2 by rw [F.eK]; exact hB)
      have hsz : its.toArray.size + its2.toArray.size ≤ sizeLine := by rw [List.size_toArray, List.size_toArray]; omega
      have hlong : ¬ (!its.toArray.isEmpty && Builtin.List.listTooLong (its.toArray.size + its2.toArray.size)) = true := by
        rw [notLongL hsz, Bool.and_false]
        exact Bool.false_ne_true
      refine call_meets PySem.F.slot_list_extend ⟨_, e', rfl⟩ PySem.F.entry_list_extend (PySem.F.args_list_extend_2 _ _)
        (AutoSeq1.list_extend_list_list_0 a its.toArray n' b its2.toArray n2 hlong (by rw [List.size_toArray]; omega) (by omega)) ⟨e', e2, ?_⟩
      refine ⟨.non, _, I.lset (its' := its ++ its2) (ys := vs ++ vs2) e e' (by simp) (r.append r2) ?_, rfl, q _ _ upd_off ⟨_, upd_same, ra.append rb, by rw [List.length_append]; exact c⟩ .non⟩
      rw [List.length_append]; omega
    · cases hp
  · cases hp
def mPop (o : O) (ds : List D) : Option (D × O) := match o, ds with
  | .lst xs, [] => xs.getLast?.map fun d => (d, .lst xs.dropLast)
  | _, _ => none
theorem m_pop : ∀ X W, Fx T N sc cold top k X W → MtR X "list.pop" (rMut T.K mPop) := fun X W F pins s σ H x xs v us Q I rx rs ⟨Φ, a, o, ds, r, o', l, hx, n, w, hd, hp, q⟩ => by
  subst hx
  unfold mPop at hp
  split at hp
  · rename_i xs'
    cases e1 : xs'.getLast? with
    | none => rw [e1] at hp; cases hp
    | some d =>
      rw [e1] at hp; cases hp
      cases hd
      obtain ⟨vs, e, ra, z⟩ := w
      have hl := ra.length
      rw [List.getLast?_eq_getElem?] at e1
      obtain ⟨y, e2, ry⟩ := ra.get e1
      rw [← hl] at e2
      exact mt_pop pins s σ H _ _ v us Q I rx rs ⟨a, vs, y, rfl, rfl, e, e2, q _ _ upd_off ⟨_, upd_same, ra.dropLast, by rw [List.length_dropLast]; omega⟩ ry⟩
  · cases hp
def mReverse (o : O) (ds : List D) : Option (D × O) := match o, ds with
  | .lst xs, [] => some (.none, .lst xs.reverse)
  | _, _ => none
theorem m_reverse : ∀ X W, Fx T N sc cold top k X W → MtR X "list.reverse" (rMut T.K mReverse) := fun X W F pins s σ H x xs v us Q I rx rs ⟨Φ, a, o, ds, r, o', l, hx, n, w, hd, hp, q⟩ => by
  subst hx
  unfold mReverse at hp
  split at hp
  · cases hp
    cases hd
    obtain ⟨vs, e, ra, z⟩ := w
    exact mt_reverse pins s σ H _ _ v us Q I rx rs ⟨a, vs, rfl, rfl, e, q _ _ upd_off ⟨_, upd_same, ra.reverse, by rw [List.length_reverse]; exact z⟩ .non⟩
  · cases hp

/-! ### d.update(e) -/
def dmerge (kvs more : List (D × D)) : List (D × D) := more.foldl (fun acc kv => dput acc kv.1 kv.2) kvs
def mUpdate (o : O) (ds : List D) : Option (D × O) := match o, ds with
  | .dic xs, [.dict ys] => if (szOk (xs.length + ys.length) && (headKS xs == headKS ys) && !xs.isEmpty) = true then some (.none, .dic (dmerge xs ys)) else none
  | _, _ => none
def mergeKs {κ : Type} [DecidableEq κ] (ws more : List (κ × V)) : List (κ × V) := more.foldl (fun acc kv => putK acc kv.1 kv.2) ws
theorem RpK.merge {κ : Type} [DecidableEq κ] {K : PySem.W.Frag} {Φ : Hp} (f : KF κ) (more : List (κ × V)) : ∀ {ys : List (D × D)} {ws : List (κ × V)} {xs : List (D × D)}, RpK K Φ (more.map fun w => (f.f w.1, w.2)) ys → RpK K Φ (ws.map fun w => (f.f w.1, w.2)) xs →
    RpK K Φ ((mergeKs ws more).map fun w => (f.f w.1, w.2)) (dmerge xs ys) := by
  induction more with
  | nil => intro ys ws xs h h2; cases h; exact h2
  | cons w more ih =>
    intro ys ws xs h h2
    cases h with
    | cons r t => have z := ih t (RpK.put f (k := w.1) r h2); exact z
theorem KT.merge {H : Hp} : ∀ {more : List (List Key × V)} {ys : List (List Key × Addr × Value)} {ws : List (List Key × V)} {xs : List (List Key × Addr × Value)}, KT H more ys → KT H ws xs → KT H (mergeKs ws more) (storedAllH xs ys)
  | _, _, _, _, .nil, h => h
  | _, _, _, _, .cons (a := p) (b := q) r t, h => by
    obtain ⟨r1, r2, r3⟩ := r
    have := KT.put h p.1 (b := q.2.1) r2 r3
    unfold mergeKs storedAllH
    simp only [List.foldl_cons]
    rw [← r1]
    exact KT.merge t this
theorem KVm {κ : Type} [DecidableEq κ] : ∀ {more : List (κ × V)} {ys : List (κ × Value)} {ws : List (κ × V)} {xs : List (κ × Value)}, KV more ys → KV ws xs → KV (mergeKs ws more) (merged xs ys)
  | _, _, _, _, .nil, h => h
  | _, _, _, _, .cons (a := p) (b := q) r t, h => by
    obtain ⟨r1, r2⟩ := r
    unfold mergeKs merged
    simp only [List.foldl_cons]
    have := KV.put h p.1 r2
    rw [← r1]
    exact KVm t this
theorem mergeKs_length {κ : Type} [DecidableEq κ] : ∀ (more ws : List (κ × V)), (mergeKs ws more).length ≤ ws.length + more.length
  | [], ws => Nat.le_refl _
  | w :: more, ws => by
    have h1 := mergeKs_length more (putK ws w.1 w.2)
    have h2 := length_putK ws w.1 w.2
    show (mergeKs (putK ws w.1 w.2) more).length ≤ _
    rw [List.length_cons]; omega
theorem m_update : ∀ X W, Fx T N sc cold top k X W → MtR X "dict.update" (rMut T.K mUpdate) := fun X W F pins s σ H x xs v us Q I rx rs ⟨Φ, a, o, ds, r, o', l, hx, n, w, hd, hp, q⟩ => by
  subst hx
  unfold mUpdate at hp
  split at hp
  · rename_i xs' ys'
    split at hp
    · rename_i c
      simp only [Bool.and_eq_true] at c
      obtain ⟨⟨c1, c2⟩, c3⟩ := c
      have c1 := of_decide_eq_true c1
      cases hp
      obtain ⟨y, rfl, ry⟩ := hd.one'
      obtain ⟨b, rfl, wb⟩ := (CR.fz ry : CR T.K Φ H y _).dictR l
      cases rx
      obtain ⟨u, rfl, ru⟩ := rs.one
      cases ru
      have hne : a ≠ b := by
        rintro rfl
        cases ry with
        | dK h => rw [n] at h; cases h
        | dT h => rw [n] at h; cases h
      have hu := F.rm.un
      rcases w with ⟨ws, e, rk⟩ | ⟨ws, e, rk⟩
      · rcases wb with ⟨ws2, e2, rk2⟩ | ⟨ws2, e2, rk2⟩
        · have l1 := rk.length; have l2 := rk2.length
          rw [List.length_map] at l1 l2
          obtain ⟨z, hd, vs, rel, dd⟩ := dk_of I.hok e
          obtain ⟨z2, hd2, vs2, rel2, dd2⟩ := dk_rd I.hok e2
          refine call_meetsIn PySem.F.slot_dict_update dd.typeIs PySem.F.entry_dict_update (PySem.F.args_dict_update_2 _ _) (meets_dict_update (mixKind X.prog X.w) a b hne hd2) ⟨vs, vs2, dd, dd2, by rw [← rel.length, ← rel2.length]; omega, fun h' d1 d2 sb => ?_⟩
          have hz : (mergeKs ws ws2).length ≤ sizeLine := by have := mergeKs_length ws2 ws; omega
          refine ⟨.non, _, d_write (ob := .dK (mergeKs ws ws2)) (t' := s.toks) I (by rw [e]; exact True.intro) sb (let ⟨q, _, _, hq, _⟩ := d1; ⟨q, hq⟩) (dk_new hz hd (KVm rel2 rel) d1), rfl, q _ _ upd_off (.inl ⟨_, upd_same, RpK.merge kfK _ rk2 rk⟩) .non⟩
        · cases ws2 with
          | nil =>
            cases rk2
            cases ws with
            | nil => cases rk; exact absurd c3 (by decide)
            | cons w ws =>
              cases rk
              obtain ⟨wk, wv⟩ := w
              cases wk <;> simp [headKS, kD, kTD] at c2
          | cons w2 ws2 =>
            cases rk2
            cases ws with
            | nil => cases rk; exact absurd c3 (by decide)
            | cons w ws =>
              cases rk
              obtain ⟨wk, wv⟩ := w
              cases wk <;> simp [headKS, kD, kTD] at c2
      · rcases wb with ⟨ws2, e2, rk2⟩ | ⟨ws2, e2, rk2⟩
        · cases ws with
          | nil => cases rk; exact absurd c3 (by decide)
          | cons w ws =>
            cases rk
            cases ws2 with
            | nil => cases rk2; simp [headKS, kD, kTD] at c2
            | cons w2 ws2 =>
              cases rk2
              obtain ⟨wk, wv⟩ := w2
              cases wk <;> simp [headKS, kD, kTD] at c2
        · have l1 := rk.length; have l2 := rk2.length
          rw [List.length_map] at l1 l2
          obtain ⟨z, hd, vs, rel, dd⟩ := dt_of I.hok e
          obtain ⟨z2, hd2, vs2, rel2, dd2⟩ := dt_rd I.hok e2
          have k1 := Paired.length rel
          have k2 := Paired.length rel2
          have hne0 : vs ≠ [] := by
            rintro rfl
            cases rel
            cases rk
            exact absurd c3 (by decide)
          refine call_update_dictH (tupleKind_room_in1 (by omega)) hne hd2 dd dd2 (.inl hne0) (by omega) fun h' d1 d2 sb => ?_
          have hz : (mergeKs ws ws2).length ≤ sizeLine := by have := mergeKs_length ws2 ws; omega
          obtain ⟨q1, es, ep, hq, g2, g3, g4, _, g5⟩ := d1
          refine ⟨.non, _, d_write (ob := .dT (mergeKs ws ws2)) (t' := s.toks) I (by rw [e]; exact True.intro) sb ⟨q1, hq⟩ ⟨hz, hd, _, (KT.merge rel2 rel).keeps fun c ys ec => ?_, q1, es, ep, hq, g2, g3, g4, g5⟩, rfl, q _ _ upd_off (.inr ⟨_, upd_same, RpK.merge kfT _ rk2 rk⟩) .non⟩
          rw [upd_ne (ne_of ec e (fun z => nomatch z))]
          exact ec
    · cases hp
  · cases hp
end
end EV
end
section
set_option Elab.async false
set_option linter.all false
set_option maxRecDepth 100000
set_option autoImplicit false
/-! EV17: x[i] = v -/
namespace EV
open PySem PySem.Spec PyProof.Rows L2
def setO (o : O) (x v : D) : Option O := match o with
  | .lst xs => match x with
    | .int i => (ixN xs.length i).map fun j => .lst (xs.set j v)
    | _ => none
  | .dic kvs => (ksD x).bind fun ks => if (ksOk kvs ks && decide (kvs.length < sizeLine)) = true then some (.dic (dput kvs x v)) else none
def rSetO (K : PySem.W.Frag) : TSet := fun o i v H Q => ∃ Φ a ob d dv ob', Le Φ H ∧ o = .ref a ∧ Φ a = none ∧ OwnR K Φ H a ob ∧ CR K Φ H i d ∧ Rp K Φ v dv ∧ setO ob d dv = some ob' ∧ ∀ H', (∀ b, b ≠ a → H' b = H b) → OwnR K Φ H' a ob' → Q H'
section
variable {T : Tx} {N : List Str} {sc : Scope} {cold top : Bool} {k : Nat} {X : Cx} {W : WX} {nr : List Nat}
theorem dk_there {P : Program} {w : World} {H : Hp} {h : Heap} {a : Addr} {kvs : List (Key × V)} (x : ObjOk P w H h a (.dK kvs)) : ∃ q, h.get? a = some q := by
  obtain ⟨_, _, _, _, o, _, _, e, _⟩ := (show kvs.length ≤ sizeLine ∧ (a == sysModules) = false ∧ ∃ vs, KV kvs vs ∧ h.DictOf (mixKind P w) a vs from x)
  exact ⟨o, e⟩
theorem I_recast {pins : List (Addr × Obj)} {σ : Sl} {H : Hp} {s : Shared} {a : Addr} {o u : HO} (I : Inv X pins σ H s) (e : H a = some o) (mu : Mut (some o)) (he : ∃ q, s.heap.get? a = some q) (new : ObjOk X.prog X.w (upd H a u) s.heap a u) : Inv X pins σ (upd H a u) s :=
  I.write (x := a) (e := a) (o := u) (h' := s.heap) (t' := s.toks) (by rw [e]; exact mu) (.inl rfl) (fun b u _ q => q) he new
theorem key_one {x : D} {k : Key} (h : ksD x = some (.one k)) : keyD x = some k := by
  cases x <;> simp only [ksD] at h <;> first
    | (cases q : keyD _ with
       | none => rw [q] at h; cases h
       | some z => rw [q] at h; cases h; rfl)
    | (cases q : keysD _ with
       | none => rw [q] at h; cases h
       | some z => rw [q] at h; cases h)
theorem key_tup {x : D} {ks : List Key} (h : ksD x = some (.tup ks)) : ∃ ds, x = .tuple ds ∧ keysD ds = some ks := by
  cases x <;> simp only [ksD] at h <;> first
    | (cases q : keysD _ with
       | none => rw [q] at h; cases h
       | some z => rw [q] at h; cases h; exact ⟨_, rfl, q⟩)
    | (cases q : keyD _ with
       | none => rw [q] at h; cases h
       | some z => rw [q] at h; cases h)
theorem ps_setO : ∀ X W, Fx T N sc cold top k X W → PSet X (rSetO T.K) := fun X W F pins s σ H o i v ov iv u Q I ro ri rv ⟨Φ, a, ob, d, dv, ob', l, ho, n, w, hd, hv, hp, q⟩ => by
  subst ho
  unfold setO at hp
  have hu := F.rm.un
  split at hp
  · split at hp
    · rename_i xs _ i
      cases e : ixN xs.length i with
      | none => rw [e] at hp; cases hp
      | some j =>
        rw [e] at hp; cases hp
        cases hd.int
        obtain ⟨vs, e1, ra, z⟩ := w
        exact set_list pins s σ H _ _ v ov iv u Q I ro ri rv ⟨a, vs, i, j, rfl, rfl, e1, by rw [ra.length]; exact e, q _ upd_off ⟨_, upd_same, ra.set j hv, by rw [List.length_set]; exact z⟩⟩
    · cases hp
  · rename_i kvs
    cases e : ksD d with
    | none => rw [e] at hp; cases hp
    | some ks =>
      simp only [e, Option.bind] at hp
      split at hp
      · rename_i c
        rw [Bool.and_eq_true] at c
        obtain ⟨c1, c2⟩ := c
        have c2 := of_decide_eq_true c2
        cases hp
        cases ro
        cases ks with
        | one k =>
          have e2 := key_one e
          cases hd.key e2
          have ex := keyD_eq e2
          have fin : ∀ (ws : List (Key × V)) (H1 : Hp), (∀ b, b ≠ a → H1 b = H b) → H1 a = some (.dK ws) → RpK T.K Φ (ws.map fun w => (kD w.1, w.2)) kvs → Inv X pins σ H1 s → wpAny (model X.prog X.w) X.A (setItem (.ref a) iv u) (fun _ s' => ∃ H', Inv X pins σ H' s' ∧ Q H') X.xe s := fun ws H1 off h1 h2 I1 => by
            have hl := h2.length; rw [List.length_map] at hl
            refine d_setItem (by omega) I1 (.inl ⟨ws, k, h1, rfl, by omega, rfl⟩) ri rv fun s' I' => ⟨_, I', q _ (fun b hb => by rw [upd_ne hb]; exact off b hb) (.inl ⟨_, upd_same, ?_⟩)⟩
            rw [ex]; exact RpK.put kfK hv h2
          rcases w with ⟨ws, h1, h2⟩ | ⟨ws, h1, h2⟩
          · exact fin ws H (fun _ _ => rfl) h1 h2 I
          · cases ws with
            | nil =>
              cases h2
              exact fin [] (upd H a (.dK [])) upd_off upd_same .nil (I_recast I h1 True.intro (dk_there (dk_empty (I.hok a _ h1))) (dk_empty ((I.hok a _ h1).stay (fun _ _ _ q => q) (fun b q => by rw [upd_ne (ne_of q h1 (fun z => nomatch z))]; exact q) (fun b xs q => by rw [upd_ne (ne_of q h1 (fun z => nomatch z))]; exact q))))
            | cons w ws => cases h2; simp [ksOk, headKS, kTD] at c1
        | tup ks =>
          obtain ⟨ds, rfl, e2⟩ := key_tup e
          obtain ⟨b, rfl, hb⟩ := hd.keyT l e2
          have ex := keysD_eq e2
          have fin : ∀ (ws : List (List Key × V)) (H1 : Hp), (∀ b, b ≠ a → H1 b = H b) → H1 a = some (.dT ws) → H1 b = some (.tup (ks.map kV)) → RpK T.K Φ (ws.map fun w => (kTD w.1, w.2)) kvs → Inv X pins σ H1 s → wpAny (model X.prog X.w) X.A (setItem (.ref a) iv u) (fun _ s' => ∃ H', Inv X pins σ H' s' ∧ Q H') X.xe s := fun ws H1 off h1 hb h2 I1 => by
            have hl := h2.length; rw [List.length_map] at hl
            refine d_setItem (by omega) I1 (.inr ⟨ws, ks, b, h1, rfl, hb, by omega, rfl⟩) ri rv fun s' I' => ⟨_, I', q _ (fun b hb => by rw [upd_ne hb]; exact off b hb) (.inr ⟨_, upd_same, ?_⟩)⟩
            rw [ex]; exact RpK.put kfT hv h2
          rcases w with ⟨ws, h1, h2⟩ | ⟨ws, h1, h2⟩
          · cases ws with
            | nil =>
              cases h2
              exact fin [] (upd H a (.dT [])) upd_off upd_same (by rw [upd_ne (ne_of hb h1 (fun z => nomatch z))]; exact hb) .nil (I_recast I h1 True.intro (dk_there (I.hok a _ h1)) (dt_empty ((I.hok a _ h1).stay (fun _ _ _ q => q) (fun b q => by rw [upd_ne (ne_of q h1 (fun z => nomatch z))]; exact q) (fun b xs q => by rw [upd_ne (ne_of q h1 (fun z => nomatch z))]; exact q))))
            | cons w ws =>
              cases h2
              obtain ⟨wk, wv⟩ := w
              cases wk <;> simp [ksOk, headKS, kD] at c1
          · exact fin ws H (fun _ _ => rfl) h1 hb h2 I
      · cases hp
/-- y[i] = e -/
def semSetIx (i : Nat) (fx f : Sem) : SemS := fun s => eThen (f s) fun r s1 => match r with
  | .val dv => match s1[i]? with
    | some (.own _) => eThen (fx s1) fun r' s2 => match s2[i]? with
      | some (.own o) => match (r'.get s2).bind fun d => setO o d dv with
        | some o' => .nx (s2.set i (.own o'))
        | none => .bad
      | _ => .bad
    | _ => .bad
  | _ => .bad
theorem ds_setIx {i : Nat} {y : Str} {py tpos pos : Pos} {e ix : Expr} {f fx : Sem} (hN : N[i]? = some y) (hv : Vis sc y) (hd : (y == ("__debug__" : Str)) = false) (hcd : (y == ("__classdict__" : Str)) = false) (he : DE T N sc cold true k e f) (hx : DE T N sc cold true k ix fx) (lx : Lasts fx) (hs : noSlice ix = true) :
    DS T N sc cold nr k (.Assign [.Subscript (.Name y py) ix tpos] e pos) (semSetIx i fx f) := fun X W σ0 F => by
  refine PSimp (ps_asg (he X W F) (pg_sub (pe_slot hN hv hd hcd F) (hx X W F) (ps_setO X W F) (by intro v; cases ix <;> first | rfl | cases hs)) (by cases e <;> rfl) (by cases e <;> rfl) rfl) fun De σ H ⟨Φ, env, g, pn, o⟩ => ⟨Φ, env, g, (Out.thenS pn o).mono fun v H1 ⟨r, env1, e1, Φ1, g1, r1, p1, o1⟩ => ?_⟩
  cases r with
  | own w => exact o1.elim
  | slot j => exact o1.elim
  | val dv =>
    simp only at o1
    cases e2 : env1[i]? with
    | none => rw [e2] at o1; exact o1.elim
    | some z =>
      cases z with
      | un => rw [e2] at o1; exact o1.elim
      | val d => rw [e2] at o1; exact o1.elim
      | own w =>
        simp only [e2] at o1
        have p1' := p1.plain (r := .val dv) fun b h => h
        obtain ⟨a, q, n, w0⟩ := g1.er.ow i w e2
        refine ⟨_, q, Φ1, env1, g1, (Out.thenS pn (o1.later p1')).mono fun x H2 ⟨r', env2, e3, Φ2, g2, r2, p2, o2⟩ => ?_⟩
        have p2' := p2.plain fun b => RO.not (lx _ _ _ e3) b
        cases e4 : env2[i]? with
        | none => rw [e4] at o2; exact o2.elim
        | some z =>
          cases z with
          | un => rw [e4] at o2; exact o2.elim
          | val d => rw [e4] at o2; exact o2.elim
          | own w2 =>
            simp only [e4] at o2
            cases e5 : r'.get env2 with
            | none => rw [e5] at o2; exact o2.elim
            | some d =>
              cases e6 : setO w2 d dv with
              | none => simp only [e5, Option.bind, e6] at o2; exact o2.elim
              | some o' =>
                simp only [e5, Option.bind, e6] at o2
                obtain ⟨a', q', n', w'⟩ := g2.er.ow i w2 e4
                rw [q] at q'; cases q'
                refine ⟨Φ2, a, w2, d, dv, o', g2.le, rfl, n', w', r2.content g2 e5, Rp.mono p2.ff r1, e6, fun H' kk w'' => ?_⟩
                obtain ⟨g', p'⟩ := g2.change e4 q kk w''
                exact o2 σ Φ2 H' g' pn (p2'.trans p')
end
end EV
end
section
set_option Elab.async false
set_option linter.all false
set_option maxRecDepth 100000
set_option autoImplicit false
/-! EV18: sorted, repr -/
namespace EV
open PySem PySem.Spec PyProof.Rows L2
open PySem.W (alike alikeAll dataLt keyToks EachIs dataKind SortsAt sortVals sortingHeap AllAlike)
def sortD (ds : List D) : List D := ds.mergeSort (PySem.W.sortLe (PyProof.Rows.listOrd PyProof.Rows.itemOrd) false keyToks)
def tupNe : D → Bool
  | .tuple (_ :: _) => true
  | _ => false
def plainS : D → Bool
  | .none => false
  | .tuple _ => false
  | _ => true
def sortOk (ds : List D) : Bool := ds.all (fun d => ds.all fun e => alike d e) && (ds.all tupNe || ds.all plainS) && ds.all shp && szOk ds.length
theorem sortOk_of {ds : List D} (h : sortOk ds = true) : AllAlike ds ∧ PySem.W.Sortable ds ∧ (∀ d ∈ ds, shp d = true) ∧ ds.length ≤ sizeLine := by
  simp only [sortOk, Bool.and_eq_true] at h
  obtain ⟨⟨⟨h1, h2⟩, h3⟩, h4⟩ := h
  refine ⟨fun d hd e he => List.all_eq_true.mp (List.all_eq_true.mp h1 d hd) e he, ?_, fun d hd => List.all_eq_true.mp h3 d hd, of_decide_eq_true h4⟩
  rw [Bool.or_eq_true] at h2
  rcases h2 with h2 | h2
  · refine .inl fun d hd => ?_
    have := List.all_eq_true.mp h2 d hd
    cases d <;> try (cases this; done)
    rename_i xs
    cases xs with
    | nil => cases this
    | cons x r => exact ⟨x, r, rfl⟩
  · refine .inr fun d hd => ?_
    have := List.all_eq_true.mp h2 d hd
    refine ⟨fun e => ?_, fun xs e => ?_⟩ <;> (subst e; cases this)
section
variable {prog : Program} {w : World} {A : Around} {E : Value → Shared → Prop} {s : Shared}
theorem sorted_data {x : Value} {ds : List D} {Q : Value → Shared → Prop} {R : Value → D → Prop} (hR : ∀ u d, R u d → ∃ as, Reads s.heap u d as) (hu : A.units + 70 < cLine) (ok : sortOk ds = true)
    (hcol : ∀ (Q' : List Value → Shared → Prop), (∀ vs h' tk, EachIs R vs ds → (∀ b o, s.heap.get? b = some o → h'.get? b = some o) → Q' vs { s with heap := h', toks := tk }) → wpAny (model prog w) A.in1 (collect x) Q' E s)
    (h : ∀ (out : List Value) (h1 h' : Heap) (tk n : Nat), EachIs R out (sortD ds) → (∀ b o, s.heap.get? b = some o → h1.get? b = some o) → (∀ b o, h1.get? b = some o → h'.get? b = some o) → h'.get? h1.objs.size = some { cls := .type "list", data := .seq out.toArray n } → Q (.ref h1.objs.size) { s with heap := h', toks := tk }) :
    wpAny (model prog w) A (call (.builtin "sorted") [x]) Q E s := by
  obtain ⟨al, so, sh, hz⟩ := sortOk_of ok
  refine Calls.call_function_entry PyProof.Rows.kind_sorted PyProof.Rows.plain_sorted PyProof.Rows.entry_sorted (PyProof.Rows.args_sorted1 _) ?_
  unfold Builtin.«sorted»
  refine wpAny_bind (m := checkCount "sorted" 1 1 _) (wpAny_pure ?_)
  refine wpAny_bind (hcol _ fun vs h' tk ev hk => ?_)
  have hlen : vs.length ≤ sizeLine := by rw [ev.length]; exact hz
  refine wpAny_bind (wpAny_newList ?_ hlen)
  have hoL : (h'.push (seqObj "list" vs.toArray 0)).get? h'.objs.size = some (seqObj "list" vs.toArray 0) := Heap.get?_push_size _ rfl
  show wpAny _ _ _ _ _ { s with heap := h'.push (seqObj "list" vs.toArray 0), toks := tk }
  have keep : ∀ b o, s.heap.get? b = some o → (sortingHeap (h'.push (seqObj "list" vs.toArray 0)) h'.objs.size vs).get? b = some o := fun b o e => by
    have hb : b < h'.objs.size := Heap.lt_size (hk b o e)
    exact PySem.W.sortingHeap_old (Nat.ne_of_lt hb) (Heap.get?_push_of_some _ (hk b o e))
  have ev2 : EachIs (fun v d => ∃ as, Reads (sortingHeap (h'.push (seqObj "list" vs.toArray 0)) h'.objs.size vs) v d as) vs ds := eachIs_imp (fun u d r => by
    obtain ⟨as, q⟩ := hR u d r
    exact ⟨as, Reads.keeps keep q⟩) ev
  have S : SortsAt prog w A.in1.in1 { s with heap := sortingHeap (h'.push (seqObj "list" vs.toArray 0)) h'.objs.size vs, toks := tk } (dataKind (sortingHeap (h'.push (seqObj "list" vs.toArray 0)) h'.objs.size vs) ds) vs :=
    SortsAt.data (s := { s with heap := sortingHeap (h'.push (seqObj "list" vs.toArray 0)) h'.objs.size vs, toks := tk }) ev2 al so fun d hd => by
      have := SeqAt.depth_of_shaped (sh d hd)
      show A.units + 1 + 1 + d.depth < cLine
      omega
  refine wpAny_bind (wpAny_holding (wpAny_call_entry PyProof.Rows.slot_list_sort ⟨_, hoL, rfl⟩ PyProof.Rows.entry_list_sort
    (PySem.W.list_sort_vals (s := { s with heap := h'.push (seqObj "list" vs.toArray 0), toks := tk }) hoL S hlen ⟨_, rfl, ?_⟩) (PyProof.Rows.args_list_sort _)))
  obtain ⟨e', he'⟩ := PyProof.Rows.sortedHeap_at (vs := vs) (out := (sortVals (dataKind (sortingHeap (h'.push (seqObj "list" vs.toArray 0)) h'.objs.size vs) ds) false vs vs).toArray) hoL
  refine wpAny_pure ⟨_, rfl, h _ h' _ tk e' (PySem.W.sortVals_each (κ := dataKind (sortingHeap (h'.push (seqObj "list" vs.toArray 0)) h'.objs.size vs) ds) (rev := false) keyToks ev ?_) hk (fun b o e => ?_) he'⟩
  · have key : ∀ {us : List Value} {es : List D}, (∀ d ∈ es, d ∈ ds) → EachIs (fun v d => ∃ as, Reads (sortingHeap (h'.push (seqObj "list" vs.toArray 0)) h'.objs.size vs) v d as) us es → EachIs (fun v b => (dataKind (sortingHeap (h'.push (seqObj "list" vs.toArray 0)) h'.objs.size vs) ds).keyOf v = some (keyToks b)) us es := by
      intro us es hm hh
      induction hh with
      | nil => exact .nil
      | cons a b ih =>
        obtain ⟨as, q⟩ := a
        exact .cons (PySem.W.dataKind_some al (hm _ (List.mem_cons_self ..)) q) (ih fun d hd => hm d (List.mem_cons_of_mem _ hd))
    exact key (fun d hd => hd) ev2
  · have hb : b < h'.objs.size := Heap.lt_size e
    rw [PyProof.Rows.sortedHeap_old (Nat.ne_of_lt hb) (by rw [size_push']; exact Nat.lt_succ_of_lt hb)]
    exact Heap.get?_push_of_some _ e
end
section
variable {T : Tx} {N : List Str} {sc : Scope} {cold top : Bool} {k : Nat} {X : Cx} {W : WX}
def iterD : D → Option (List D)
  | .list ds => some ds
  | .tuple ds => some ds
  | .dict kvs => some (kvs.map (·.1))
  | _ => none
theorem RpK.keys1 {K : PySem.W.Frag} {Φ : Hp} : ∀ {ws : List (D × V)} {kvs : List (D × D)}, RpK K Φ ws kvs → kvs.map (·.1) = ws.map (·.1)
  | _, _, .nil => rfl
  | _, _, .cons _ t => congrArg (_ :: ·) (RpK.keys1 t)
/-- the items of what is walked, as values -/
def ItR (X : Cx) (Φ : Hp) (s : Shared) (u : Value) (d : D) : Prop := ∃ v, RelV v u ∧ Rp X.K Φ v d
theorem each_of {K : PySem.W.Frag} {Φ : Hp} : ∀ {us : List Value} {vs : List V} {ds : List D}, Vals vs us → RpA K Φ vs ds → EachIs (fun u d => ∃ v, RelV v u ∧ Rp K Φ v d) us ds
  | _, _, _, .nil, .nil => .nil
  | _, _, _, .cons r t, .cons a b => .cons ⟨_, r, a⟩ (each_of t b)
theorem sq_rp {K : PySem.W.Frag} {Φ Ψ : Hp} (l : Le Φ Ψ) {us : List Value} {ds : List D} (h : EachIs (fun u d => ∃ v, RelV v u ∧ Rp K Φ v d) us ds) : EachIs (fun u d => ∃ v, RelV v u ∧ Rp K Ψ v d) us ds :=
  eachIs_imp (fun _ _ ⟨v, r, q⟩ => ⟨v, r, q.mono l⟩) h
/-- the frozen tuples of a heap -/
def tupsOf (H : Hp) : Hp := fun a => match H a with
  | some (.tup xs) => some (.tup xs)
  | _ => none
theorem tupsOf_le (H : Hp) : Le (tupsOf H) H := fun a o e => by
  unfold tupsOf at e
  cases h : H a with
  | none => rw [h] at e; cases e
  | some u => rw [h] at e; cases u <;> cases e; rfl
def joinH (Φ Ψ : Hp) : Hp := fun a => match Φ a with
  | some u => some u
  | none => Ψ a
theorem join_l {Φ Ψ : Hp} : Le Φ (joinH Φ Ψ) := fun a o e => by unfold joinH; rw [e]
theorem join_r {Φ Ψ H : Hp} (h1 : Le Φ H) (h2 : Le Ψ H) : Le Ψ (joinH Φ Ψ) := fun a o e => by
  unfold joinH
  cases h : Φ a with
  | none => exact e
  | some u => have a1 := h1 _ _ h; have a2 := h2 _ _ e; rw [a1] at a2; exact a2
theorem join_le {Φ Ψ H : Hp} (h1 : Le Φ H) (h2 : Le Ψ H) : Le (joinH Φ Ψ) H := fun a o e => by
  unfold joinH at e
  cases h : Φ a with
  | none => rw [h] at e; exact h2 _ _ e
  | some u => rw [h] at e; cases e; exact h1 _ _ h
theorem kD_rp {K : PySem.W.Frag} {Φ : Hp} (k : Key) : Rp K Φ (kV k) (kD k) := by cases k <;> constructor
theorem keys_rp {K : PySem.W.Frag} {Φ : Hp} : ∀ (ks : List Key), RpA K Φ (ks.map kV) (ks.map kD)
  | [] => .nil
  | k :: ks => .cons (kD_rp k) (keys_rp ks)
theorem join_nw {Φ H : Hp} : ∀ a, joinH Φ (tupsOf H) a ≠ none → Φ a ≠ none ∨ Nw H a := fun a h => by
  unfold joinH at h
  cases e : Φ a with
  | some u => exact .inl (fun z => nomatch z)
  | none =>
    rw [e] at h
    unfold tupsOf at h
    cases e2 : H a with
    | none => rw [e2] at h; exact absurd rfl h
    | some u => rw [e2] at h; cases u <;> first | exact absurd rfl h | exact .inr (.inr ⟨_, e2⟩)
/-- a new list whose items may lean on tuples that are there -/
theorem NewQ.lstJ {K : PySem.W.Frag} {Φ H : Hp} {Q : VK} {a : Addr} {vs : List V} {ds : List D} (h : NewQ K Φ H (.own (.lst ds)) Q) (l : Le Φ H) (n : H a = none) (r : RpA K (joinH Φ (tupsOf H)) vs ds) (z : ds.length ≤ sizeLine) : Q (.ref a) (upd H a (.lst vs)) := by
  have lj : Le (joinH Φ (tupsOf H)) H := join_le l (tupsOf_le H)
  exact h _ _ _ join_l (lj.trans (upd_le n)) (upd_le n) join_nw ⟨a, rfl, n, lj.none n, vs, upd_same, r, z⟩
/-- the items that a walk over data meets -/
theorem collect_of {pins : List (Addr × Obj)} {σ : Sl} {H Φ : Hp} {s : Shared} {x : V} {u : Value} {d : D} {ds : List D} {A : Around} {E : Value → Shared → Prop} (hh : A.handled = none) (I : Inv X pins σ H s) (l : Le Φ H) (h : CR X.K Φ H x d) (e : iterD d = some ds) (r : RelV x u) (Q : List Value → Shared → Prop)
    (hq : ∀ us h' tk, EachIs (fun u d => ∃ v, RelV v u ∧ Rp X.K (joinH Φ (tupsOf H)) v d) us ds → (∀ b o, s.heap.get? b = some o → h'.get? b = some o) → Q us { s with heap := h', toks := tk }) : wpAny (model X.prog X.w) A (collect u) Q E s := by
  have hz16 := sizeLine_eq
  cases d <;> try (cases e; done)
  · rename_i xs
    cases e
    obtain ⟨a, vs, rfl, sq, ra, z⟩ := h.list l
    cases r
    obtain ⟨its, rv, pl, hz⟩ := I.list sq
    obtain ⟨o, ho, hc, n, hd⟩ := pl.isList
    have hl := rv.length
    exact wpAny_collect_seq a (.inl rfl) ho hc hd (fun h' kp => hq its h' _ (each_of rv (ra.mono join_l)) kp) (by simp only [List.size_toArray]; omega)
  · rename_i xs
    cases e
    obtain ⟨a, vs, rfl, sq, ra, z⟩ := h.tuple l
    cases r
    obtain ⟨its, rv, pl, hz⟩ := I.tuple sq
    obtain ⟨o, ho, hc, n, hd⟩ := pl
    have hl := rv.length
    exact wpAny_collect_seq a (.inr rfl) ho hc hd (fun h' kp => hq its h' _ (each_of rv (ra.mono join_l)) kp) (by simp only [List.size_toArray]; omega)
  · rename_i kvs
    cases e
    obtain ⟨a, rfl, w⟩ := h.dictR l
    cases r
    rcases w with ⟨ws, e, rk⟩ | ⟨ws, e, rk⟩
    · obtain ⟨z, lo, vs, rel, dd⟩ := dk_rd I.hok e
      obtain ⟨ep, hat⟩ := dd.dictAt
      have hl : ws.length = vs.length := Paired.length rel
      refine PySem.W.kdu_collect (PySem.W.kdl_dict (knd := mixKind X.prog X.w) (kvs := vs) (ep := ep) lo) hh hat (by omega) fun h' tk acc hk hacc => hq _ h' tk ?_ hk
      have hkeys : Vals (vs.map fun p => kV p.1) acc.toList := keys_at (by rw [Array.length_toList, hacc.1]) fun j v e => hacc.2 j v (by rw [← Array.getElem?_toList]; exact e)
      have e1 : (vs.map fun p => kV p.1) = (ws.map (·.1)).map kV := by rw [KV.keys rel, List.map_map]; rfl
      have e2 : kvs.map (·.1) = (ws.map (·.1)).map kD := by
        have := RpK.keys1 rk
        rw [List.map_map] at this; rw [List.map_map, this]; rfl
      rw [e1] at hkeys
      rw [e2]
      exact each_of hkeys (keys_rp _)
    · obtain ⟨z, hs, ks, pr, o, es, ep, ho, hx, hdt, he, hn⟩ := (show ObjOk X.prog X.w H s.heap a (.dT ws) from e.ok I.hok)
      have l1 : es.size = ks.length := size_of_entries he
      have l2 : ws.length = ks.length := Paired.length pr
      refine PySem.W.kdu_collect (kdl_raw hs hx hdt) hh ho (by omega) fun h' tk acc hk hacc => hq _ h' tk ?_ hk
      have ea : acc.toList = ks.map fun x => Value.ref x.2.1 := by
        have hl : acc.toList.length = ks.length := by rw [Array.length_toList, hacc.1]; exact l1
        apply List.ext_getElem?
        intro j
        rw [List.getElem?_map]
        cases hj : acc.toList[j]? with
        | none =>
          have h1 := List.getElem?_eq_none_iff.mp hj
          rw [List.getElem?_eq_none (by omega)]
          all_goals rfl
        | some v =>
          obtain ⟨en, hen, hv⟩ := hacc.2 j v (by rw [← Array.getElem?_toList]; exact hj)
          have qe := entry_at he j
          rw [hen] at qe
          cases hb : ks[j]? with
          | none =>
            rw [hb] at qe
            exact nomatch (show some en = none from qe)
          | some b =>
            rw [hb] at qe
            have e2 : en = entryOfKey (tupleKind (mixKind X.prog X.w)) b := Option.some.inj qe
            rw [hv, e2]
            all_goals rfl
      rw [ea]
      have e2 := RpK.keys1 rk
      rw [List.map_map] at e2
      rw [e2]
      clear ea e2 rk hacc hk l1 l2 he hn e z
      induction pr with
      | nil => exact .nil
      | cons h t ih =>
        rename_i p q ps qs
        obtain ⟨h1, h2, _⟩ := h
        refine .cons ⟨.ref q.2.1, rfl, ?_⟩ ih
        have hz : (p.1.map kD).length ≤ sizeLine := by
          have := (I.hok _ _ h2).1
          rw [List.length_map] at this ⊢; exact this
        refine .tup (join_r l (tupsOf_le H) _ _ ?_) (keys_rp p.1) hz
        unfold tupsOf; rw [h2]
def pSorted (xs : List D) : Option R := match xs with
  | [d] => (iterD d).bind fun ds => if sortOk ds = true then some (.own (.lst (sortD ds))) else none
  | _ => none
theorem sortD_len (ds : List D) : (sortD ds).length = ds.length := by unfold sortD; exact List.length_mergeSort _
theorem c_sorted : ∀ X W, Fx T N sc true top k X W → CallR X (.builtin "sorted") (rPn T.K pSorted) := fun X W F pins s σ H xs us Q I r ⟨Φ, ds, q0, l, hd, hp, q⟩ => by
  unfold pSorted at hp
  split at hp
  · rename_i d
    cases e : iterD d with
    | none => rw [e] at hp; cases hp
    | some ds =>
      simp only [e, Option.bind] at hp
      split at hp
      · rename_i ok
        cases hp
        obtain ⟨v, rfl, hv⟩ := hd.one
        obtain ⟨u, rfl, rx⟩ := vals1 r
        obtain ⟨al, so, sh, hz⟩ := sortOk_of ok
        have hv' : CR X.K Φ H v d := by rw [F.eK]; exact hv
        have lj := join_le l (tupsOf_le H)
        refine sorted_data (R := fun u d => (∃ v, RelV v u ∧ Rp X.K (joinH Φ (tupsOf H)) v d) ∧ ∃ as, Reads s.heap u d as) (fun u d h => h.2) (by have := F.rm.un; omega) ok (fun Q' hq => collect_of (A := X.A.in1) (I.ok.hd (F.cal rfl).1) I l hv' e rx Q' fun us h' tk ev hk => hq us h' tk ?_ hk) fun out h1 h' tk n ev k1 k2 e' => ?_
        · have key : ∀ {us : List Value} {es : List D}, (∀ d ∈ es, d ∈ ds) → EachIs (fun u d => ∃ v, RelV v u ∧ Rp X.K (joinH Φ (tupsOf H)) v d) us es → EachIs (fun u d => (∃ v, RelV v u ∧ Rp X.K (joinH Φ (tupsOf H)) v d) ∧ ∃ as, Reads s.heap u d as) us es := by
            intro us es hm hh
            induction hh with
            | nil => exact .nil
            | cons a b ih =>
              obtain ⟨v, r1, r2⟩ := a
              have sd := sh _ (hm _ (List.mem_cons_self ..))
              exact .cons ⟨⟨v, r1, r2⟩, Dp.reads I _ _ _ (Rp.dp lj _ _ r2 (nodict_shaped sd)) r1⟩ (ih fun d hd => hm d (List.mem_cons_of_mem _ hd))
          exact key (fun d hd => hd) ev
        · have I1 : Inv X pins σ H { s with heap := h1, toks := tk } := I.kept k1
          obtain ⟨vs, rv, ra⟩ := eachIs_rp (eachIs_imp (fun _ _ h => h.1) ev)
          have hl : vs.length ≤ sizeLine := by rw [ra.length, sortD_len]; exact hz
          refine ⟨.ref h1.objs.size, upd H h1.objs.size (.lst vs), I1.laid (t' := tk) k2 (Nat.le_refl _) (show ObjOk X.prog X.w _ _ _ (.lst vs) from ⟨hl, out, n, rv, e'⟩), rfl, q.lstJ l (I1.hok.fresh (Nat.le_refl _)) (by rw [← F.eK]; exact ra) (by rw [sortD_len]; exact hz)⟩
      · cases hp
  · cases hp

/-! ### repr -/
def showOk (d : D) : Bool := d.showable && !d.hasDict && decide (d.depth ≤ 64) && szOk d.shown.length
def pRepr (xs : List D) : Option R := match xs with
  | [d] => if showOk d = true then some (.val (.str d.shown)) else none
  | _ => none
theorem repr_ref {pins : List (Addr × Obj)} {σ : Sl} {H Φ : Hp} {s : Shared} {v : V} {u : Value} {d : D} {a : Addr} {Q : VK} (F : Fx T N sc true top k X W) (I : Inv X pins σ H s) (l : Le Φ H) (h : CR T.K Φ H v d) (ev : v = .ref a) (r : RelV v u) (c : showOk d = true) (q : NewQ T.K Φ H (.val (.str d.shown)) Q) :
    wpAny (model X.prog X.w) X.A (call (.builtin "repr") [u]) (EP X pins σ Q) X.xe s := by
  simp only [showOk, Bool.and_eq_true, Bool.not_eq_true'] at c
  obtain ⟨⟨⟨c1, c2⟩, c3⟩, c4⟩ := c
  have h1 := h.dp l c2
  rw [← F.eK] at h1
  obtain ⟨as, r1⟩ := Dp.reads I _ v u h1 r
  subst ev
  cases r
  have hu := F.rm.un
  have c3 := of_decide_eq_true c3
  exact repr_of_reads' r1 c1 (PyData.noDict_hsm c2) (F.cal rfl).2.2 (by omega) (fun b o e => e) (fun h' t tk hk => ⟨.str d.shown, H, I.kept hk, ⟨t, rfl⟩, q.val l (.str _)⟩) (of_decide_eq_true c4)
theorem c_repr : ∀ X W, Fx T N sc true top k X W → CallR X (.builtin "repr") (rPn T.K pRepr) := fun X W F pins s σ H xs us Q I r ⟨Φ, ds, q0, l, hd, hp, q⟩ => by
  unfold pRepr at hp
  split at hp
  · rename_i d
    split at hp
    · rename_i c
      cases hp
      obtain ⟨v, rfl, hv⟩ := hd.one
      obtain ⟨u, rfl, rx⟩ := vals1 r
      cases d with
      | none =>
        cases hv.none; cases rx
        exact PySem.P.repr_of_none ⟨.str (PyData.none).shown, H, I.tok _, ⟨_, rfl⟩, q.val l (.str _)⟩
      | bool b =>
        cases hv.bool; cases rx
        exact PySem.P.repr_of_bool ⟨.str (PyData.bool b).shown, H, I.tok _, ⟨_, rfl⟩, q.val l (.str _)⟩
      | int i =>
        cases hv.int; obtain ⟨t, rfl⟩ := rx
        have c1 : i.natAbs.log2 < 1920 := by
          simp only [showOk, Bool.and_eq_true] at c
          exact of_decide_eq_true c.1.1.1
        exact PySem.P.repr_of_int c1 ⟨.str (PyData.int i).shown, H, I.tok _, ⟨_, rfl⟩, q.val l (.str _)⟩
      | str x =>
        cases hv.str; obtain ⟨t, rfl⟩ := rx
        simp only [showOk, Bool.and_eq_true] at c
        exact PySem.P.repr_of_str ⟨.str (PyData.str x).shown, H, I.tok _, ⟨_, rfl⟩, q.val l (.str _)⟩ (of_decide_eq_true c.2)
      | list xs => obtain ⟨a, vs, ev, _⟩ := hv.list l; exact repr_ref F I l hv ev rx c q
      | tuple xs => obtain ⟨a, vs, ev, _⟩ := hv.tuple l; exact repr_ref F I l hv ev rx c q
      | dict kvs => simp [showOk, PyData.hasDict] at c
    · cases hp
  · cases hp
end
end EV
end
section
set_option Elab.async false
set_option linter.all false
set_option maxRecDepth 100000
set_option autoImplicit false
/-! EV19: truth, small facts, count and index of lists, raise -/
namespace PySem
open Sem (wp)
open PyProof.Rows
section
variable {prog : Program} {w : World} {A : Around} {E : Value → Shared → Prop} {s : Shared} {K : Type} [DecidableEq K] {knd : HeapKind prog w K}
theorem ev_truthy_dictH {d : Addr} {xs : List (K × Addr × Value)} {Q : Bool → Shared → Prop} (hd : (d == sysModules) = false) (hm : s.heap.DictOfH knd d xs) (hfit : (xs.length : Int) < 2 ^ 63)
    (h : Q (!xs.isEmpty) { s with toks := s.toks + 1 + 1 }) : wpAny (model prog w) A (truthy (.ref d)) Q E s := by
  have hne : ((xs.length : Int) != 0) = !xs.isEmpty := by cases xs <;> simp <;> omega
  have key : wpAny (model prog w) A (runValue (.builtin "len" ⟨[.ref d], []⟩)) (fun r s' => r = .int xs.length (s.toks + 1) ∧ Q (!xs.isEmpty) s') E s := by
    refine wpAny_runValue (codeAny_builtin entry_len ?_)
    rw [Around.under_plainId plain_len _]
    exact wpAny_mono (wpAny_len_body_dictH (Q := fun r s' => r = .int xs.length (s.toks + 1) ∧ Q (!xs.isEmpty) s') hd hm hfit ⟨rfl, h⟩)
      (fun fin s' h' => by obtain ⟨r, rfl, hq⟩ := h'; exact hq) fun _ _ e => e
  unfold truthy
  first
    | refine wpAny_bind (wpAny_callSpecial?_none (name := Str.ofString "__bool__") hm.typeIs noBool_dict ?_)
    | refine wpAny_bind (wpAny_pure (wpAny_bind (wpAny_callSpecial?_none (name := Str.ofString "__bool__") hm.typeIs noBool_dict ?_)))
  first
    | refine wpAny_bind (wpAny_specialOf (name := Str.ofString "__len__") hm.typeIs F.slot_dict_len.lookup ?_)
    | refine wpAny_bind (wpAny_pure (wpAny_bind (wpAny_specialOf (name := Str.ofString "__len__") hm.typeIs F.slot_dict_len.lookup ?_)))
  first
    | exact wpAny_bind (wpAny_mono key (fun r s' h' => by obtain ⟨rfl, hq⟩ := h'; exact wpAny_pure (hne ▸ hq)) fun _ _ e => e)
    | exact wpAny_bind (wpAny_pure (wpAny_bind (wpAny_mono key (fun r s' h' => by obtain ⟨rfl, hq⟩ := h'; exact wpAny_pure (hne ▸ hq)) fun _ _ e => e)))
end
end PySem
namespace EV
open PySem PySem.Spec PyProof.Rows L2
section
variable {T : Tx} {N : List Str} {sc : Scope} {cold top : Bool} {k : Nat} {X : Cx} {W : WX} {nr : List Nat}
theorem lasts_C (d : D) : Lasts (semC d) := fun s r s' h => by cases h; rfl
theorem lasts_nh (i : Nat) : Lasts (semNh i) := fun s r s' h => by
  unfold semNh at h
  cases e : s[i]? with
  | none => rw [e] at h; cases h
  | some x => rw [e] at h; cases x <;> cases h <;> rfl
theorem lasts_nv (i : Nat) : Lasts (semNv i) := fun s r s' h => by
  unfold semNv at h
  cases e : s[i]? with
  | none => rw [e] at h; cases h
  | some x => rw [e] at h; cases x <;> cases h <;> rfl
/-- the value of what is read, by itself -/
def plainTest : Expr → Bool
  | .UnaryOp .. => false
  | .BoolOp .. => false
  | .IfExp .. => false
  | .Compare .. => false
  | _ => true
theorem tru_of {pins : List (Addr × Obj)} {σ : Sl} {H Φ : Hp} {s : Shared} {x : V} {v : Value} {d : D} {b : Bool} {Q : Bool → Hp → Prop} (I : Inv X pins σ H s) (l : Le Φ H) (h : CR X.K Φ H x d) (e : truth d = some b) (r : RelV x v) (q : Q b H) :
    wpAny (model X.prog X.w) X.A (truthy v) (TP X pins σ Q) X.xe s := by
  have flat : ∀ (x' : V), TruV X.K x' H b → x = x' → wpAny (model X.prog X.w) X.A (truthy v) (TP X pins σ Q) X.xe s := fun x' t ex => by subst ex; exact tru_ok pins s σ H x v Q I r ⟨b, t, q⟩
  cases d with
  | none => cases e; exact flat .non rfl h.none
  | bool c => exact flat (.bl c) (Option.some.inj e).symm h.bool
  | int i => exact flat (.int i) (Option.some.inj e).symm h.int
  | str z =>
    simp only [truth] at e
    by_cases c : z.length ≤ sizeLine
    · rw [if_pos c] at e
      exact flat (.str z) ⟨c, (Option.some.inj e).symm⟩ h.str
    · rw [if_neg c] at e; cases e
  | list ds =>
    cases e
    obtain ⟨a, vs, ex, sq, ra, _⟩ := h.list l
    exact flat (.ref a) (.inl ⟨vs, sq, by cases ra <;> rfl⟩) ex
  | tuple ds =>
    cases e
    obtain ⟨a, vs, ex, sq, ra, _⟩ := h.tuple l
    exact flat (.ref a) (.inr (.inl ⟨vs, sq, by cases ra <;> rfl⟩)) ex
  | dict kvs =>
    cases e
    obtain ⟨a, rfl, w⟩ := h.dictR l
    cases r
    rcases w with ⟨ws, e, rk⟩ | ⟨ws, e, rk⟩
    · refine d_truth I e fun s' I' => ⟨H, I', ?_⟩
      have : kvs.isEmpty = ws.isEmpty := by
        cases ws with
        | nil => cases rk; rfl
        | cons w ws => cases rk; rfl
      rw [this] at q; exact q
    · obtain ⟨z, hd, ys, rel, dd⟩ := dt_rd I.hok e
      have hl2 : ws.length = ys.length := Paired.length rel
      refine ev_truthy_dictH hd dd (by rw [← hl2]; rw [sizeLine_eq] at z; omega) ?_
      have : kvs.isEmpty = ys.isEmpty := by
        cases rel with
        | nil => cases rk; rfl
        | cons _ _ => cases rk; rfl
      rw [this] at q
      exact ⟨H, I.tok _, q⟩
theorem dt_tru {e : Expr} {f : Sem} (h : DE T N sc cold top k e f) (lf : Lasts f) (hp : plainTest e = true) : DT T N sc cold top k e (semTru f) := fun X W F => by
  refine ⟨fun pins s σ H Q I ⟨Φ, env, g0, o⟩ => ?_⟩
  have he : ∀ whole, isTrue e X.env whole = (do let v ← whole; standAt e.pos; holding [v] (truthy v)) := fun whole => by
    cases e with
    | UnaryOp op a p => cases hp
    | BoolOp op a p => cases hp
    | IfExp a b c d => cases hp
    | Compare a b c d => cases hp
    | _ => rfl
  have oo : Out T.K T.mg W σ Φ H (Ow env σ) (f env) (fun v H1 => ∃ Φ1 d b, Le Φ1 H1 ∧ CR T.K Φ1 H1 v d ∧ truth d = some b ∧ Q b H1) := (Out.bindB o).mono fun v H1 ⟨r, env1, e1, Φ1, g1, r1, p1, o1⟩ => by
    have p1' := p1.plain fun b => RO.not (lf _ _ _ e1) b
    cases e2 : r.get env1 with
    | none => rw [e2] at o1; exact o1.elim
    | some d =>
      cases e3 : truth d with
      | none => simp only [e2, Option.bind, e3] at o1; exact o1.elim
      | some b =>
        simp only [e2, Option.bind, e3] at o1
        exact ⟨Φ1, d, b, g1.le, r1.content g1 e2, e3, o1 Φ1 H1 g1 p1'⟩
  refine isTrue_plain (thn ((h X W F).run pins s σ H _ I ⟨Φ, env, g0, oo⟩) fun v s1 ⟨x, H1, I1, r1, Φ1, d, b, l1, c1, e1, q1⟩ => ?_) (he _)
  exact tru_of I1 l1 (by rw [F.eK]; exact c1) e1 r1 q1
/-! ### [..].count, [..].index -/
def pCount (d : D) (xs : List D) : Option R := match d, xs with
  | .list ds, [x] => if (shp x && shp (.list ds)) = true then some (.val (.int ((ds.countP fun z => PyData.eqv z x : Nat) : Int))) else none
  | _, _ => none
theorem countP_data {h : Heap} {vs : List Value} {xs : List PyData} {as : List Addr} {d : PyData} (rs : ReadsAll h vs xs as) (hxs : PyData.canLayAll0 xs = true) : vs.countP (fun y => PyData.eqv (SeqAt.readOf h y) d) = xs.countP (fun y => PyData.eqv y d) := by
  rw [← SeqAt.readsAll_map xs _ _ hxs rs, List.countP_map]
  rfl
theorem m_count : ∀ X W, Fx T N sc cold top k X W → MtR X "list.count" (rPm T.K pCount) := fun X W F pins s σ H x xs v us Q I rx rs ⟨Φ, d, ds, r, l, hd, hs, hp, q⟩ => by
  unfold pCount at hp
  split at hp
  · rename_i ds x'
    split at hp
    · rename_i c
      rw [Bool.and_eq_true] at c
      cases hp
      obtain ⟨y, rfl, hy⟩ := hs.one
      obtain ⟨u, rfl, ru⟩ := vals1 rs
      have h1 := hy.dp l (nodict_shaped c.1)
      have h2 := hd.dp l (nodict_shaped c.2)
      rw [← F.eK] at h1 h2
      obtain ⟨as, r1⟩ := Dp.reads I _ y u h1 ru
      obtain ⟨a, vs, rfl, sq, ra, _⟩ := hd.list l
      cases rx
      obtain ⟨its, rv, ⟨⟨cls, dd, data, sls⟩, n, ho, hc, hdn, hdt⟩, hlen⟩ := I.list (by rw [F.eK]; exact sq)
      simp only at hc hdt
      subst hc hdt
      have hxs : PyData.canLayAll0 ds = true := SeqAt.canLay_of_shaped c.2
      have hA : DpAll X.K H vs ds := by
        cases h2 with
        | lst hs' ha =>
          have := I.list_inj hs' (by rw [F.eK]; exact sq)
          subst this; exact ha
      obtain ⟨bs, r2⟩ := Dp.readsAll I ds _ its hA rv
      have hroom : X.A.units + 1 + min (PyData.depthAll ds) x'.depth < cLine := room_in_shaped c.1 (by have := F.rm.un; omega)
      refine call_meets PySem.F.slot_list_count ⟨_, ho, rfl⟩ PySem.F.entry_list_count (PySem.F.args_list_count_2 _ _)
        (SeqAt.list_countAt a its.toArray n dd sls u (fun u => PyData.eqv (SeqAt.readOf s.heap u) x')) ⟨ho, SeqAt.items_eqAt (vs := its.toArray) (show ReadsAll s.heap its.toArray.toList ds bs from r2) r1 hxs (SeqAt.canLay_of_shaped c.1) hroom, ?_⟩
      refine ⟨.int _, H, I.tok _, ⟨_, rfl⟩, ?_⟩
      have e : its.toArray.toList.countP (fun u => PyData.eqv (SeqAt.readOf s.heap u) x') = ds.countP fun z => PyData.eqv z x' := countP_data (show ReadsAll s.heap its.toArray.toList ds bs from r2) hxs
      rw [e]
      exact q.val l (.int _)
    · cases hp
  · cases hp
/-- the first place of an equal one -/
def idxD (ds : List D) (x : D) : Option Nat := ds.findIdx? fun z => PyData.eqv z x
def pIndex (d : D) (xs : List D) : Option R := match d, xs with
  | .list ds, [x] => if (shp x && shp (.list ds)) = true then (idxD ds x).map fun j => .val (.int (j : Nat)) else none
  | _, _ => none
theorem m_index : ∀ X W, Fx T N sc cold top k X W → MtR X "list.index" (rPm T.K pIndex) := fun X W F pins s σ H x xs v us Q I rx rs ⟨Φ, d, ds, r, l, hd, hs, hp, q⟩ => by
  unfold pIndex at hp
  split at hp
  · rename_i ds x'
    split at hp
    · rename_i c
      rw [Bool.and_eq_true] at c
      cases e : idxD ds x' with
      | none => rw [e] at hp; cases hp
      | some j =>
        rw [e] at hp; cases hp
        obtain ⟨y, rfl, hy⟩ := hs.one
        have h1 := hy.dp l (nodict_shaped c.1)
        have h2 := hd.dp l (nodict_shaped c.2)
        rw [← F.eK] at h1 h2
        obtain ⟨a, vs, rfl, _⟩ := hd.list l
        unfold idxD at e
        rw [List.findIdx?_eq_some_iff_getElem] at e
        obtain ⟨hj, e1, e2⟩ := e
        refine mt_indexD (by have := F.rm.un; omega) pins s σ H _ _ v us Q I rx rs ⟨a, y, x', ds, j, ds[j], rfl, rfl, h2, h1, c.2, c.1, List.getElem?_eq_getElem hj, e1, fun m z' hm hz => ?_, q.val l (.int _)⟩
        obtain ⟨hm2, rfl⟩ := List.getElem?_eq_some_iff.mp hz
        have := e2 m hm
        simpa using this
    · cases hp
  · cases hp
end
end EV
end
section
set_option Elab.async false
set_option linter.all false
set_option maxRecDepth 100000
set_option autoImplicit false
/-! EV20: raise, try .. except MakeError as error: return _law_kind(error) -/
namespace EV
open PySem PySem.Spec PyProof.Rows L2
structure ErrE (T : Tx) (c : Str) : Prop where
  ex : ∃ (C : Addr) (B newId initId : String) (bm : List Value), T.mg c = some (.ref C) ∧ PySem.W.keepIn T.K (.ref C) = true ∧ ExcBaseFacts B newId initId bm ∧ PySem.W.excIn T.K C bm newId = true ∧
    PySem.W.subIn T.K (.ref C) (.type "BaseException") = some true ∧ PySem.W.typeIn T.K (.ref C) = some (.type "type")
section
variable {T : Tx} {N : List Str} {sc : Scope} {cold top : Bool} {k : Nat} {X : Cx} {W : WX} {nr : List Nat}
def semRaise (c : Str) : SemS := fun s => .ex ⟨c, none⟩ s
theorem ds_raise {c m : Str} {j : Nat} {p p2 pos pos' : Pos} (E : ErrE T c) (hc : cold = true) (hg : sc.names.lookup c = some .globalImplicit) (hdb : (c == ("__debug__" : Str)) = false) :
    DS T N sc cold nr k (.Raise (some (.Call (.Name c p) [.Constant (.str m) j p2] [] pos)) none pos') (semRaise c) := fun X W σ0 F => by
  obtain ⟨C, B, newId, initId, bm, h1, h2, h3, h4, h5, h6⟩ := E.ex
  refine PSimp (L2N.ps_raise (F.cal hc).1 F.tk (L2N.pmk_own h3 (by rw [F.eK]; exact h4) (by rw [F.em]; exact h1) (by rw [F.eK]; exact h2) (raises_own (by rw [F.eK]; exact h5) (by rw [F.eK]; exact h6)) (gl_of F hg) hdb)) fun De σ H ⟨Φ, env, g, pn, o⟩ => ?_
  exact o σ Φ H (.ref C) none g pn ⟨h1, rfl⟩ (Pres.refl _ _ _)

/-! ### the def that tells an error's kind, called in an except suite -/
structure KindOk (T : Tx) (k : Nat) (f : Addr) (fd : FuncData) (kv : Value → Str → Prop) : Prop where
  run : ∀ (A : Around) (outer : List PySem.Env) (s : Shared) (H : Hp) (args : Args) (us : List Value) (p : Addr × Obj) (cls : Value) (z : Str) (Q : VK) (E : XK), L2H.RoomH k A → L2H.Hot1 A p → L2H.PinOk outer H s p → Zc cls none p.2 → Env0 T.P T.w T.K T.mg T.base A outer s H →
    BindsTo s fd args ((["error"] : List Str).zip us) → us = [.ref p.1] → kv cls z → (∀ H', Same H H' → Q (.str z) H') → codeAny (model T.P T.w) A (.call (.ref f) args) (L2.CR (L2N.CX T.P T.w) outer T.P T.w H s Q E) s
theorem kindOk_of {f : Addr} {name qual : Str} {params : Arguments} {body : List Stmt} {scope : Scope} {dV kV doc pm cdv ct oc : Value} {an od : Option Addr} {osl : Array (Option Value)} {N : List Str} {kv : Value → Str → Prop}
    (lk : T.K.lookup f = some ⟨oc, od, .func (PySem.W.fnOf name qual params body scope dV kV doc pm an cdv ct), osl⟩) (hcd : PySem.W.codeIn T.K cdv qual = true) (S : FnScope N ["error"] scope)
    (hb : ∀ (X : Cx) (p : Addr × Obj) (cls : Value), Fx T N scope false true k X (fun _ _ _ _ => False) → p ∈ X.pn → Zc cls none p.2 → (∃ vs, p.2.data = .fields vs) →
      ∃ t, PSs X body t ∧ ∀ z H Q, kv cls z → (∀ H', Same H H' → Q (.str z) H') → t { nx := fun _ H' => Q .non H', rt := Q } (L2.start N [.ref p.1]) H) :
    KindOk T (k + 1) f (PySem.W.fnOf name qual params body scope dV kV doc pm an cdv ct) kv := by
  refine ⟨fun A outer s H args us p cls z Q E hr hot hpin hz e0 hbd hus hk hQ => ?_⟩
  have KX : T.K.In s.heap := e0.mod.kin.keeps fun b o e => (e0.bs b o e).1
  have lim : s.heap.NoLimit := e0.mod.nolimit.keeps fun b o e => (e0.bs b o e).1
  have hkind : ∀ y ∈ (["error"] : List Str).zip us, scope.names.lookup y.1 = some .local ∨ (scope.names.lookup y.1 = some .cell ∧ ((cellsFrom (s.heap.objs.size + 1) scope.names []).lookup y.1).isSome = true) := fun ⟨n, v⟩ hy => by
    rcases S.par n (List.of_mem_zip hy).1 with q | q
    · exact .inl q
    · exact .inr ⟨q, PySem.W.cellsFrom_some _ _ _ (.inl q)⟩
  have dpt : A.depth < recursionLimit := by have := hr.dp; omega
  refine codeAny_call_function dpt (KX _ _ lk) rfl S.co S.gen rfl (PySem.W.codeRec_of KX hcd) (hbd _ _ _ _ ?_)
  refine wpAny_newFunctionEnv_cells S.kind hkind fun env he s1 x => ?_
  subst he
  refine ⟨lim.keeps x.toInCall.keep, codeAny_func ?_⟩
  have hp : p ∈ (L2H.cxH (L2N.CX T.P T.w) T.P T.w T.K T.mg T.base N qual scope f cdv A outer s H E p).pn := List.mem_cons_self ..
  have FX : Fx T N scope false true k (L2H.cxH (L2N.CX T.P T.w) T.P T.w T.K T.mg T.base N qual scope f cdv A outer s H E p) (fun _ _ _ _ => False) :=
    { eP := rfl, ew := rfl, eK := rfl, em := rfl, eb := rfl, eN := rfl, nd := S.nd, es := rfl, tk := (fun u s' ⟨_, _, _, _, _, _, _, _, _, _, _, _, _, _, _, _, w⟩ => w.elim), ps := passes_of rfl,
      rm := ⟨(hr.deeper (envOfC qual scope s.heap.objs.size f cdv)).dp, (hr.deeper (envOfC qual scope s.heap.objs.size f cdv)).un⟩, cal := (fun h => nomatch h), fn := (fun _ _ => rfl), tp := (fun _ => ⟨rfl, rfl, S.kind⟩) }
  obtain ⟨t, ht, hq⟩ := hb _ p cls FX hp hz (let ⟨vs, h, _⟩ := hot.2; ⟨vs, h⟩)
  subst hus
  have r : Vals [V.ref p.1] [Value.ref p.1] := .cons rfl .nil
  have I : Inv (L2H.cxH (L2N.CX T.P T.w) T.P T.w T.K T.mg T.base N qual scope f cdv A outer s H E p) [] (L2.start N [.ref p.1]) H s1 := L2H.inv_startH S hpin e0 rfl r x
  refine wpAny_mono (ht.run [] s1 (L2.start N [.ref p.1]) H _ I (hq z H Q hk hQ)) (fun fl s' hs => ?_) fun e s' hs => hs
  have fin : ∀ {σ' : Sl} {H' : Hp} {v : V} {u : Value}, Inv (L2H.cxH (L2N.CX T.P T.w) T.P T.w T.K T.mg T.base N qual scope f cdv A outer s H E p) [] σ' H' s' → RelV v u → Q v H' → CE outer T.P T.w H s Q u s' :=
    fun {σ' H' v u} J rv q => ⟨v, H', J.os, J.bare, J.base, J.hok, rv, q⟩
  cases fl with
  | ret u =>
    obtain ⟨v, σ', H', J, rv, q⟩ := hs
    exact fin J rv q
  | next =>
    obtain ⟨σ', H', J, q⟩ := hs
    exact fin (v := V.non) (u := Value.none) J rfl q
  | brk =>
    obtain ⟨_, _, _, q⟩ := hs
    exact False.elim q
  | cont =>
    obtain ⟨_, _, _, q⟩ := hs
    exact False.elim q
/-- isinstance(error, C) in such a def -/
theorem cr_isE {a D : Addr} {oe : Obj} (C : ExcC X.K D) (hp : (a, oe) ∈ X.pn) (hz : Zc (.ref D) none oe) (hf : ∃ vs, oe.data = .fields vs) : CallR X (.builtin "isinstance") (rIsE X.K D a) := by
  intro pins s σ H xs us Q I r h
  obtain ⟨c, cv, b, rfl, hcv, e, q⟩ := h
  cases r with
  | cons rx rr =>
    cases rr with
    | cons rt rr =>
      cases rr
      cases rx
      have ec := hcv _ rt
      subst ec
      obtain ⟨hget, _⟩ := I.pin (a, oe) (List.mem_append.mpr (.inl hp))
      obtain ⟨vs, hv⟩ := hf
      have J : PySem.W.InstAt s.heap a oe D none := by
        obtain ⟨oc, od, oda, osl⟩ := oe
        obtain ⟨h1, h2⟩ := hz
        dsimp only at h1 h2 hv
        subst h1 h2 hv
        exact ⟨hget, rfl, rfl, trivial⟩
      exact PySem.W.kia_one (PySem.W.handS_kitx_exc C.hg C.hk C.hs C.hd C.ha C.hn C.ht C.hm) I.kIn J e (fun z => nomatch z) fun tk => ⟨.bl b, H, I.kept (t' := tk) fun _ _ z => z, rfl, q⟩
/-- the call, in the suite -/
def tKind (i : Nat) (a : Addr) (kv : Value → Str → Prop) (cls : Value) : TE := fun σ H Q => σ[i]? = some (some (.ref a)) ∧ ∃ z, kv cls z ∧ ∀ H', Same H H' → Q (.str z) H'
structure CallK (T : Tx) (k : Nat) (x : Str) (kv : Value → Str → Prop) : Prop where
  ex : ∃ (f : Addr) (fd : FuncData), KindOk T k f fd kv ∧ T.mg x = some (.ref f) ∧ PySem.W.keepIn T.K (.ref f) = true ∧ Binds T.K fd ["error"] []
theorem pe_kind {kv : Value → Str → Prop} {x n : Str} {i : Nat} {a : Addr} {oe : Obj} {cls : Value} {pn : List (Addr × Obj)} {p np pos : Pos} (F : Fx T N sc cold top k X W) (C : CallK T k x kv) (hz : L2N.Zn cls none oe) (hf : ∃ vs, oe.data = .fields vs) (hN : N[i]? = some n) (hv : Vis sc n)
    (hg : sc.names.lookup x = some .globalImplicit) (hdb : (x == ("__debug__" : Str)) = false) (hd : (n == ("__debug__" : Str)) = false) (hcd : (n == ("__classdict__" : Str)) = false) :
    PE (X.suite a ((a, oe) :: pn)) (.Call (.Name x p) [.Name n np] [] pos) (tKind i a kv cls) := by
  obtain ⟨f, fd, KO, hm, hk, hb⟩ := C.ex
  refine ⟨fun pins s σ H Q I ⟨hs, z, hkv, hQ⟩ => ?_⟩
  have hg' : Gl (X.suite a ((a, oe) :: pn)) x := by show X.env.scope.names.lookup x = _; rw [F.es]; exact hg
  refine wpAny_Call_Name_kw (ld_glob I hg' (by show X.mg x = _; rw [F.em]; exact hm) ?_ hdb)
  have hk' : PySem.W.keepIn (X.suite a ((a, oe) :: pn)).K (.ref f) = true := by show PySem.W.keepIn X.K _ = _; rw [F.eK]; exact hk
  have pv : PE (X.suite a ((a, oe) :: pn)) (.Name n np) (tVar i) := pe_var (by show X.N[i]? = _; rw [F.eN]; exact hN) (by show Vis X.env.scope n; rw [F.es]; exact hv) hd hcd
  refine PySem.W.callWith_K (h₀ := X.base) I.ok.mod.kin hk' (thn ((pa_cons pv pa_nil).run pos pins s σ H (fun vs H1 => vs = [.ref a] ∧ H1 = H) I ⟨_, hs, rfl, rfl⟩) fun us s1 ⟨vs, H1, I1, r, ev, eH⟩ => ⟨I1.kIn, ?_⟩)
  subst ev eH
  have eu : us = [.ref a] := Vals.ref1 r
  subst eu
  have P1 := I1.pin (a, oe) (List.mem_append_left _ (List.mem_cons_self ..))
  have hpin : L2H.PinOk (X.suite a ((a, oe) :: pn)).stack H1 s1 (a, oe) := ⟨P1.1, P1.2.1, fun hm => (List.mem_cons.mp (I1.stkSub a hm)).elim P1.2.2.1 P1.2.2.2.1, P1.2.2.2.2⟩
  have b := hb s1 [.ref a] (by have := I1.kIn; rw [← F.eK]; exact this) (by rfl)
  rw [List.append_nil] at b
  have env0 : Env0 T.P T.w T.K T.mg T.base (X.suite a ((a, oe) :: pn)).A (X.suite a ((a, oe) :: pn)).stack s1 H1 := by
    have := I1.env0
    have e1 : (X.suite a ((a, oe) :: pn)).prog = T.P := F.eP
    have e2 : (X.suite a ((a, oe) :: pn)).w = T.w := F.ew
    have e3 : (X.suite a ((a, oe) :: pn)).K = T.K := F.eK
    have e4 : (X.suite a ((a, oe) :: pn)).mg = T.mg := F.em
    have e5 : (X.suite a ((a, oe) :: pn)).base = T.base := F.eb
    rwa [e1, e2, e3, e4, e5] at this
  have hot : L2H.Hot1 (X.suite a ((a, oe) :: pn)).A (a, oe) := ⟨rfl, let ⟨vs, e⟩ := hf; ⟨vs, e, hz.2.2 vs e⟩⟩
  have hr : L2H.RoomH k (X.suite a ((a, oe) :: pn)).A := ⟨F.rm.dp, F.rm.un⟩
  have hrun := KO.run (X.suite a ((a, oe) :: pn)).A (X.suite a ((a, oe) :: pn)).stack s1 H1 ⟨[.ref a], []⟩ [.ref a] (a, oe) cls z Q (fun _ _ _ => False) hr hot hpin hz.zc env0 b rfl hkv hQ
  rw [← F.eP, ← F.ew] at hrun
  refine wpAny_call (codeAny_mono hrun fun r s' hq => ?_)
  cases r with
  | error e =>
    obtain ⟨_, _, _, _, _, _, _, _, _, _, _, _, w⟩ := hq
    exact w.elim
  | ok fl =>
    cases fl with
    | ret u => exact I1.after hq
    | next => exact False.elim hq
    | brk => exact False.elim hq
    | cont => exact False.elim hq
structure TryK (T : Tx) (mk : Str) (kv : Value → Str → Prop) (kindOf : Str → Option Str) : Prop where
  ex : ∃ mcls, T.mg mk = some mcls ∧ ∀ c z cls, kindOf c = some z → T.mg c = some cls → kv cls z ∧ PySem.W.exmOne T.K cls mcls = some true
def semTry (kindOf : Str → Option Str) (i : Nat) (fb : SemS) : SemS := fun s => match fb s with
  | .ex x s' => match x.p with
    | none => match kindOf x.c with
      | some z => if i < s'.length then .rt (.val (.str z)) (s'.set i .un) else .bad
      | none => .bad
    | some _ => .bad
  | r => r
theorem Fx.tr (F : Fx T N sc true true k X W) {W' : WX} {pn : List (Addr × Obj)} {xe : Value → Shared → Prop} (tk : L2N.Takes (X.tr pn xe) W') (ps : PassesOwn (model X.prog X.w) X.A X.env xe) : Fx T N sc true true k (X.tr pn xe) W' where
  eP := F.eP
  ew := F.ew
  eK := F.eK
  em := F.em
  eb := F.eb
  eN := F.eN
  nd := F.nd
  es := F.es
  tk := tk
  ps := ps
  rm := F.rm
  cal := F.cal
  fn := F.fn
  tp := F.tp
theorem Good.setRef {K : PySem.W.Frag} {Φ H : Hp} {env : Sg} {σ : Sl} {i : Nat} {v : Option V} (g : Good K Φ H env σ) : Good K Φ H (env.set i .un) (σ.set i v) ∧ ∀ b, Ow (env.set i .un) (σ.set i v) b → Ow env σ b := by
  have key : ∀ (j : Nat) (x : SV), (env.set i SV.un)[j]? = some x → x ≠ SV.un → env[j]? = some x ∧ (σ.set i v)[j]? = σ[j]? := fun j x h hx => by
    by_cases e : i = j
    · subst e
      rw [List.getElem?_set_self'] at h
      cases q : env[i]? with
      | none => rw [q] at h; cases h
      | some y => rw [q] at h; cases h; exact absurd rfl hx
    · rw [get_set_ne e] at h
      exact ⟨h, get_set_ne e⟩
  refine ⟨⟨g.le, by simpa using g.er.len, fun j d e => ?_, fun j o e => ?_, fun j l o o' a e1 e2 e3 e4 => ?_⟩, fun a ⟨j, o, e1, e2⟩ => ?_⟩
  · obtain ⟨h1, h2⟩ := key j _ e (by intro z; cases z)
    rw [h2]; exact g.er.vl j d h1
  · obtain ⟨h1, h2⟩ := key j _ e (by intro z; cases z)
    rw [h2]; exact g.er.ow j o h1
  · obtain ⟨h1, h2⟩ := key j _ e1 (by intro z; cases z)
    obtain ⟨h3, h4⟩ := key l _ e2 (by intro z; cases z)
    rw [h2] at e3; rw [h4] at e4
    exact g.er.dj j l o o' a h1 h3 e3 e4
  · obtain ⟨h1, h2⟩ := key j _ e1 (by intro z; cases z)
    rw [h2] at e2; exact ⟨j, o, h1, e2⟩
theorem ds_tryKind {kv : Value → Str → Prop} {kindOf : Str → Option Str} {mk x n : Str} {i : Nat} {body : List Stmt} {fb : SemS} {mp p np cp rp hp pos : Pos} (hc : cold = true) (C : CallK T k x kv) (E : TryK T mk kv kindOf) (hb : DSs T N sc cold nr k body fb) (hN : N[i]? = some n) (hln : sc.names.lookup n = some .local) (hn : i ∉ nr)
    (hgm : sc.names.lookup mk = some .globalImplicit) (hdm : (mk == ("__debug__" : Str)) = false) (hg : sc.names.lookup x = some .globalImplicit) (hdb : (x == ("__debug__" : Str)) = false) (hd : (n == ("__debug__" : Str)) = false) (hcd : (n == ("__classdict__" : Str)) = false) :
    DS T N sc cold nr k (.Try body [.ExceptHandler (some (.Name mk mp)) (some n) [.Return (some (.Call (.Name x p) [.Name n np] [] cp)) rp] hp] [] [] pos) (semTry kindOf i fb) := fun X W σ0 F => by
  subst hc
  obtain ⟨mcls, hm, hE⟩ := E.ex
  obtain ⟨t1, t2, t3⟩ := F.tp rfl
  refine PSimp (L2N.ps_try_as (i := i) (c := mcls) (tb := fun W' => tS T.K T.mg W' nr σ0 fb) (ts := fun a cls d => fun De σ H => d = none ∧ tRet (tKind i a kv cls) De σ H) (Wout := W) t1 t2 (by rw [F.eN]; exact F.nd) (by rw [F.eN]; exact hN) (by show X.env.scope.names.lookup n = _; rw [F.es]; exact hln) ⟨gl_of F hgm, hdm, .inl (by rw [F.em]; exact hm)⟩ F.tk
    (fun W' pn xe tk ps => hb _ _ σ0 (F.tr tk ps)) (fun a oe cls d pn hz hf => ?_)) fun De σ H ⟨Φ, env, g, pn, o⟩ => ⟨Φ, env, g, pn, ?_⟩
  · by_cases hd0 : d = none
    · subst hd0
      have := ps_ret (pos := rp) (pe_kind (n := n) (i := i) (a := a) (oe := oe) (cls := cls) (pn := pn) (p := p) (np := np) (pos := cp) F C hz hf hN (.inl hln) hg hdb hd hcd)
      exact pss_one (PSimp this fun De σ H h => h.2)
    · exact ⟨fun pins s σ H De I h => absurd h.1 hd0⟩
  · unfold semTry at o
    cases e : fb env with
    | nx s => rw [e] at o; exact o
    | rt r s => rw [e] at o; exact o
    | bk s => rw [e] at o; exact o
    | ct s => rw [e] at o; exact o
    | bad => rw [e] at o; exact o
    | ex xx s =>
      simp only [e] at o
      intro σ' Φ' H' cls d g' pn' xr p'
      cases e1 : xx.p with
      | some q => rw [e1] at o; exact o.elim
      | none =>
        cases e2 : kindOf xx.c with
        | none => simp only [e1, e2] at o; exact o.elim
        | some z =>
          simp only [e1, e2] at o
          by_cases hi : i < s.length
          case neg => rw [if_neg hi] at o; exact o.elim
          rw [if_pos hi] at o
          unfold XcR at xr
          rw [e1] at xr
          obtain ⟨x1, x2⟩ := xr
          obtain ⟨k1, k2⟩ := hE _ _ _ e2 x1
          have x2 : d = none := x2
          subst x2
          refine ⟨true, by rw [F.eK]; exact k2, fun _ a na => ⟨rfl, ?_, z, k1, fun H2 sm => ?_⟩, fun h => Bool.noConfusion h⟩
          · exact List.getElem?_set_self (by rw [← g'.er.len]; exact hi)
          · obtain ⟨g2, sub⟩ := g'.setRef (i := i) (v := some (.ref a))
            obtain ⟨g3, p3⟩ := g2.grow (Le.refl _) (g2.le.trans sm) sm (fun b h => .inl h)
            refine o (.str z) (σ'.set i (some (.ref a))) Φ' H2 g3 (fun j hj => ?_) (.str z) (.inl rfl) ?_
            · have ne : i ≠ j := by rintro rfl; exact hn hj
              rw [get_set_ne ne]; exact pn' j hj
            · exact ((p'.trans ⟨Le.refl _, fun _ _ h _ => h, fun b h => .inl (sub b h), fun _ h => .inl h⟩).trans p3).some fun b h => h.elim id False.elim
end
end EV
end
section
set_option Elab.async false
set_option linter.all false
set_option maxRecDepth 100000
set_option autoImplicit false
/-! EV21: [f, g, ..][i](..) -/
namespace EV
open PySem PySem.Spec PyProof.Rows L2
section
variable {T : Tx} {N : List Str} {sc : Scope} {cold top : Bool} {k : Nat} {X : Cx} {W : WX} {nr : List Nat}
inductive Picks (T : Tx) (sc : Scope) (k n : Nat) : List Expr → List Cs → Prop
  | nil : Picks T sc k n [] []
  | cons {x : Str} {p : Pos} {cs : Cs} {es : List Expr} {css : List Cs} : CallE T k x n cs → sc.names.lookup x = some .globalImplicit → (x == ("__debug__" : Str)) = false → Picks T sc k n es css → Picks T sc k n (.Name x p :: es) (cs :: css)
/-- the defs, by their values -/
inductive PickV (T : Tx) (k n : Nat) : List V → List Cs → Prop
  | nil : PickV T k n [] []
  | cons {f : Addr} {fd : FuncData} {ps : List Str} {cs : Cs} {vs : List V} {css : List Cs} : FnE T k f fd ps cs → PySem.W.keepIn T.K (.ref f) = true → Binds T.K fd ps [] → ps.length = n → PickV T k n vs css → PickV T k n (.ref f :: vs) (cs :: css)
theorem pick_pa {n : Nat} (F : Fx T N sc cold top k X W) : ∀ {es : List Expr} {css : List Cs}, Picks T sc k n es css → ∃ vs, PickV T k n vs css ∧ PA X es (fun _ H Q => Q vs H)
  | _, _, .nil => ⟨[], .nil, pa_nil⟩
  | _, _, .cons C hg hd t => by
    obtain ⟨f, fd, ps, h1, h2, h3, h4, h5⟩ := C.ex
    obtain ⟨vs, hv, hp⟩ := pick_pa F t
    exact ⟨.ref f :: vs, .cons h1 h3 h4 h5 hv, PAimp (pa_cons (pe_glob (v := .ref f) (gl_of F hg) (by rw [F.em]; exact h2) rfl hd) hp) fun _ _ _ h => h⟩
theorem PickV.len {n : Nat} : ∀ {vs : List V} {css : List Cs}, PickV T k n vs css → vs.length = css.length
  | _, _, .nil => rfl
  | _, _, .cons _ _ _ _ t => congrArg (· + 1) (PickV.len t)
theorem Picks.len {n : Nat} : ∀ {es : List Expr} {css : List Cs}, Picks T sc k n es css → css.length = es.length
  | _, _, .nil => rfl
  | _, _, .cons _ _ _ t => congrArg (· + 1) (Picks.len t)
theorem PickV.get {n : Nat} : ∀ {vs : List V} {css : List Cs}, PickV T k n vs css → ∀ {j : Nat} {cs : Cs}, css[j]? = some cs → ∃ (f : Addr) (fd : FuncData) (ps : List Str), vs[j]? = some (.ref f) ∧ FnE T k f fd ps cs ∧ PySem.W.keepIn T.K (.ref f) = true ∧ Binds T.K fd ps [] ∧ ps.length = n
  | _, _, .nil, j, cs, h => by simp at h
  | _, _, .cons h1 h2 h3 h4 t, j, cs, h => by
    cases j with
    | zero => simp at h; subst h; exact ⟨_, _, _, rfl, h1, h2, h3, h4⟩
    | succ j =>
      obtain ⟨f, fd, ps, e, r⟩ := t.get (j := j) (by simpa using h)
      exact ⟨f, fd, ps, by simpa using e, r⟩
def semPick (css : List Cs) (fi : Sem) (fs : List Arg) : Sem := fun s => (fi s).bind fun r s1 => match (intOf r s1).bind (atI css) with
  | some cs => (semArgs fs s1).bind fun rs s2 => callBack cs rs s2
  | none => .bad
theorem de_pick {n : Nat} {ns es : List Expr} {e ix : Expr} {lp p pos : Pos} {css : List Cs} {fi : Sem} {fs : List Arg} (P : Picks T sc k n ns css) (hi : DE T N sc true top k ix fi) (li : Lasts fi) (ha : DA T N sc true top k (e :: es) fs) (hn : ∀ s s' rs, semArgs fs s = .ok rs s' → rs.length = n)
    (hz : ns.length ≤ sizeLine) (hsl : noSlice ix = true) (hs : (e :: es).all noStar = true) : DE T N sc true top k (.Call (.Subscript (.List ns lp) ix p) (e :: es) [] pos) (semPick css fi fs) := fun X W F => by
  have h1 : noStar e = true ∧ es.all noStar = true := by simpa [Bool.and_eq_true] using hs
  obtain ⟨vs, PV, hp⟩ := pick_pa F P
  have pvl := PV.len
  refine ⟨fun pins s σ H Q I ⟨Φ, env, g, o⟩ => ?_⟩
  refine Call_ ?_
  refine Subscript_ (thn ((pe_lst hp).run pins s σ H (fun v H1 => ∃ q, v = .ref q ∧ H q = none ∧ H1 = upd H q (.lst vs)) I ⟨by rw [pvl, P.len]; exact hz, fun q hq => ⟨q, rfl, hq, rfl⟩⟩) fun v s1 ⟨x, H1, I1, r1, q, ex, hq, eH⟩ => ?_)
  subst ex; subst eH
  have nq : Φ q = none := g.le.none hq
  obtain ⟨g1, p1⟩ := g.grow (Φ' := Φ) (H' := upd H q (.lst vs)) (Le.refl _) (g.le.trans (upd_le hq)) (upd_le hq) (fun _ h => .inl h)
  have oo : Out T.K T.mg W σ Φ (upd H q (.lst vs)) (Ow env σ) (fi env) (fun x H2 => ∃ r env1, fi env = .ok r env1 ∧ Mid T.K σ Φ (upd H q (.lst vs)) (Ow env σ) r env1 x H2 fun _ => Out T.K T.mg W σ Φ (upd H q (.lst vs)) (Ow env σ) ((match (intOf r env1).bind (atI css) with
    | some cs => (semArgs fs env1).bind fun rs s2 => callBack cs rs s2
    | none => .bad)) Q) := Out.bind (o.later p1)
  refine thn ((hi X W F).run pins s1 σ (upd H q (.lst vs)) _ I1 ⟨Φ, env, g1, oo⟩) fun iv s2 ⟨y, H2, I2, r2, r, env1, e1, Φ2, g2, rr, p2, o2⟩ => ?_
  have p2' := p2.plain fun b => RO.not (li _ _ _ e1) b
  cases ei : intOf r env1 with
  | none => rw [ei] at o2; exact o2.elim
  | some i =>
    cases ec : atI css i with
    | none => simp only [ei, Option.bind, ec] at o2; exact o2.elim
    | some cs =>
      simp only [ei, Option.bind, ec] at o2
      have ey := rr.intOf g2 ei
      subst ey
      have hH2 : H2 q = some (.lst vs) := p2'.kp q _ upd_same (fun h => absurd hq (g.owned h).2)
      have ea : ∃ f fd ps, atI vs i = some (.ref f) ∧ FnE T k f fd ps cs ∧ PySem.W.keepIn T.K (.ref f) = true ∧ Binds T.K fd ps [] ∧ ps.length = n := by
        unfold atI at ec ⊢
        rw [pvl]
        cases ej : ixN css.length i with
        | none => rw [ej] at ec; cases ec
        | some j => rw [ej] at ec; exact PV.get ec
      obtain ⟨f, fd, ps, h2, C, hk, hb, hl⟩ := ea
      cases r1
      refine wpAny_mono (ix_list (.List ns lp) ix pins s2 σ H2 (.ref q) (.int i) (.ref q) iv (fun v' H' => v' = .ref f ∧ H' = H2) I2 rfl r2 ⟨q, vs, i, .ref f, rfl, rfl, .inl (.inl hH2), h2, rfl, rfl⟩ (plain_ix hsl _ _)) (fun fv s3 ⟨v', H', I3, r3, ev, eH⟩ => ?_) fun _ _ h => h
      subst ev; subst eH
      cases r3
      have hk' : PySem.W.keepIn X.K (.ref f) = true := by rw [F.eK]; exact hk
      have oo2 : OutL T.K T.mg W σ Φ2 H' (Ow env1 σ) (semArgs fs env1) (fun vs H1 => vs.length = n ∧ spE T cs vs H1 Q (fun cls d H' => W cls d σ H')) := by
        refine OutL.mono (OutL.bind2 (o2.later p2')) fun vs H1 ⟨rs, env1, e1, Φ1, g1, r1, p1, o1⟩ => ⟨?_, callBack_of g1 r1 p1 o1⟩
        rw [r1.len]; exact hn _ _ _ e1
      refine PySem.W.callWith_K (h₀ := X.base) I3.ok.mod.kin hk' (thn ((ha X W F).run pos pins s3 σ H' _ I3 ⟨Φ2, env1, g2, oo2⟩) fun us s4 ⟨vs4, H4, I4, r4, q4⟩ => ⟨I4.kIn, ?_⟩) (starEach_one h1.1) (starEach_plain h1.2)
      exact run_call F C hb (q4.1.trans hl.symm) I4 r4 q4.2
end
end EV
end
section
set_option Elab.async false
set_option linter.all false
set_option maxRecDepth 100000
set_option autoImplicit false
/-! EV22: the end of a law -/
namespace EV
open PySem PySem.Spec PyProof.Rows L2
theorem intsR {K : PySem.W.Frag} {Φ : Hp} : ∀ (ns : List Int), RpA K Φ (ns.map V.int) (ns.map PyData.int)
  | [] => .nil
  | n :: ns => .cons (.int n) (intsR ns)
theorem law_callE {P : Program} {w : World} {K : PySem.W.Frag} {mg mb : Str → Option Value} {k : Nat} {fa a : Addr} {fd : FuncData} {x : Str} {cs : Cs} {s₁ : Shared} {vs : List Value} {ns : List Int}
    (KX : K.In s₁.heap) (hns : s₁.heap.Ns mainGlobals mg) (hb : s₁.heap.Ns builtinsNs mb) (hbb : ∀ x : Str, x ≠ "__name__" → mb x = bootBuiltins x) (hlim : s₁.heap.NoLimit) (hg : s₁.gens = #[])
    (ha : s₁.heap.get? a = some { cls := .type "list", data := .seq vs.toArray }) (hi : IntsAre vs ns) (hl : ns.length ≤ sizeLine) (hr : RoomE k callerA)
    (F : ∀ base : Heap, K.In base → base.Ns mainGlobals mg → FnE ⟨P, w, K, mg, base⟩ k fa fd [x] cs) (hbind : ∀ (s : Shared) (u : Value), BindsTo s fd ⟨[u], []⟩ [(x, u)])
    (hcs : ∃ ps, cs [.val (.list (ns.map PyData.int))] = .ok (.val (.bool true)) ps) :
    codeAny (model P w) callerA (.call (.ref fa) ⟨[.ref a], []⟩) (fun r s' => r = .ok (.ret (.bool true)) ∧ OldK s₁.heap s'.heap ∧ s'.os = s₁.os ∧ AllBare s'.gens) s₁ := by
  have rv := vals_ints hi
  have lenV := hi.length
  have core : ∀ H : Hp, Only H → LsR K H a (ns.map V.int) → HOk P w H s₁.heap → (∀ b, H b ≠ none → b = a) → (H a ≠ none → K.lookup a = none) →
      codeAny (model P w) callerA (.call (.ref fa) ⟨[.ref a], []⟩) (fun r s' => r = .ok (.ret (.bool true)) ∧ OldK s₁.heap s'.heap ∧ s'.os = s₁.os ∧ AllBare s'.gens) s₁ := by
    intro H hO hS hok hA hK
    have base_of : ∀ {b : Addr} {o : Obj}, s₁.heap.get? b = some o → H b = none → (hidT s₁.heap H).get? b = some o := fun e n => hidT_get e n
    have noA : ∀ {b : Addr} {o : Obj} {es : Array DictEntry} {ep : Nat}, s₁.heap.get? b = some o → o.data = .dict es ep → H b = none := fun {b o es ep} e d => by
      cases q : H b with
      | none => rfl
      | some u =>
        have e' : b = a := hA b (by rw [q]; simp)
        subst e'
        rw [ha] at e; cases e
        have d' : Data.seq vs.toArray _ = Data.dict es ep := d
        cases d'
    have nsK : ∀ {b : Addr} {m : Str → Option Value}, s₁.heap.Ns b m → (hidT s₁.heap H).Ns b m := fun {b m} ⟨o, es, ep, e, d, r⟩ => ⟨o, es, ep, base_of e (noA e d), d, r⟩
    have hKb : K.In (hidT s₁.heap H) := fun b o e => base_of (KX b o e) (by
      cases q : H b with
      | none => rfl
      | some u =>
        have e' : b = a := hA b (by rw [q]; simp)
        subst e'
        rw [hK (by rw [q]; simp)] at e; cases e)
    have hM : Mod K mg (hidT s₁.heap H) := ⟨hKb, nsK hns, ⟨mb, nsK hb, hbb⟩, let ⟨mc, h1, h2⟩ := hlim; ⟨mc, nsK h1, h2⟩⟩
    have e0 : Env0 P w K mg (hidT s₁.heap H) callerA [] s₁ H := ⟨rfl, hM, fun b o e => of_hidT e, Nat.le_of_eq (hidT_size _ _), trivial, fun b hb => absurd (show b ∈ ([] : List Addr) from hb) (by simp), hok, .of_eq hg⟩
    have sp : spE ⟨P, w, K, mg, hidT s₁.heap H⟩ cs [.ref a] H (fun v _ => v = .bl true) (fun _ _ _ => False) := by
      obtain ⟨ps, e⟩ := hcs
      have hz : (ns.map PyData.int).length ≤ sizeLine := by rw [List.length_map]; exact hl
      refine ⟨H, [.val (.list (ns.map PyData.int))], ⟨Le.refl _, rfl, fun i d e => ?_, fun i o e => ?_, fun i j o o' b e => ?_⟩, ?_⟩
      · cases i with
        | zero => simp at e; subst e; exact ⟨_, rfl, .lst hS (intsR ns) hz⟩
        | succ i => simp at e
      · cases i with
        | zero => simp at e
        | succ i => simp at e
      · cases i with
        | zero => simp at e
        | succ i => simp at e
      · rw [e]
        refine .inl ⟨rfl, fun i h => (by cases h), fun v Φ' H' g' rr p => ?_⟩
        have rr : Rp K Φ' v (.bool true) := rr
        cases rr; rfl
    refine codeAny_mono ((F _ hKb (nsK hns)).run callerA [] s₁ H ⟨[.ref a], []⟩ [.ref a] [.ref a] _ _ hr rfl rfl e0 (hbind s₁ (.ref a)) (.cons rfl .nil) rfl sp) fun r s' h => ?_
    cases r with
    | error e =>
      obtain ⟨_, _, _, _, _, _, _, _, _, _, _, _, w⟩ := h
      exact w.elim
    | ok fl =>
      cases fl with
      | next => exact False.elim h
      | brk => exact False.elim h
      | cont => exact False.elim h
      | ret u =>
        obtain ⟨v, H', os, bare, un, hok', r', q⟩ := h
        have q' : v = .bl true := q
        subst q'
        obtain rfl : u = Value.bool true := r'
        refine ⟨rfl, OldK.of_keep fun b o e => ?_, os, bare⟩
        cases q : H b with
        | none => exact un.keep b o e q (by intro z; exact absurd (show b ∈ ([] : List Addr) from z) (by simp)) (by simp)
        | some u =>
          rcases hO b with z | ⟨ob, xs, z⟩
          · rw [q] at z; cases z
          · have z2 := un.frzs b ob _ z
            obtain ⟨e1, _⟩ := hok b _ z
            obtain ⟨e2, _⟩ := hok' b _ z2
            rw [e] at e1; cases e1
            exact e2
  cases hk : K.lookup a with
  | some o =>
    have e := KX a o hk
    rw [ha] at e
    cases e
    refine core (fun _ => none) (fun _ => .inl rfl) (.inr ⟨vs, _, hk, by rw [lenV]; exact hl, rv⟩) (fun b u z => by have z' : (none : Option HO) = some u := z; cases z') (fun b z => absurd rfl z) fun z => absurd rfl z
  | none =>
    refine core (fun b => if b = a then some (.frz { cls := .type "list", data := .seq vs.toArray } (.lst (ns.map V.int))) else none) (fun b => ?_) (.inl (.inr ⟨{ cls := .type "list", data := .seq vs.toArray }, if_pos rfl⟩)) (fun b u z => ?_) (fun b z => ?_) fun _ => hk
    · by_cases hb : b = a
      · exact .inr ⟨_, _, if_pos hb⟩
      · exact .inl (if_neg hb)
    · by_cases hb : b = a
      · have z' := (if_pos hb).symm.trans z
        cases z'
        subst hb
        exact ⟨ha, by rw [List.length_map]; exact hl, vs, _, rv, ha⟩
      · have z' := (if_neg hb).symm.trans z
        cases z'
    · by_cases hb : b = a
      · exact hb
      · exact absurd (if_neg hb) z
theorem walk_ofEV {l : PySem.W.OpenLaw} {n k : Nat} {q : Program} {loose : List Str} {XP : (Str → Option Value) → Heap → Prop} {YP : World → Heap → Prop} {d : DefRec} {x : Str}
    (hn : l.most = some n) (hn2 : n ≤ sizeLine) (hdf : d.params.defaults = []) (hr : RoomE k callerA)
    (F : ∀ (w : World) (mg : Str → Option Value) (fa : Addr) (h : Heap), YP w h → h.Ns mainGlobals mg → mg d.name = some (.ref fa) →
      ∃ (K : PySem.W.Frag) (fd : FuncData) (cs : Cs), K.In h ∧ (∀ (s : Shared) (u : Value), BindsTo s fd ⟨[u], []⟩ [(x, u)]) ∧
        (∀ ns : List Int, ns.length ≤ n → ∃ ps, cs [.val (.list (ns.map PyData.int))] = .ok (.val (.bool true)) ps) ∧
        ∀ base : Heap, K.In base → base.Ns mainGlobals mg → FnE ⟨l.prog, w, K, mg, base⟩ k fa fd [x] cs) :
    PySem.W.WalkO q loose XP YP l.row.toRowW d [] (fun f vs => PySem.call f vs) := by
  refine Att.attach_call hn hdf fun w s₀ s₁ mg mb fa o pm cd doc a vs ns G Y ho hd hcd hmg hobj hints hlen hg => ?_
  obtain ⟨K, fd, cs, KX, hb, hsp, hF⟩ := F w mg fa _ Y G.T.g hmg
  exact law_callE KX G.T.g G.T.b G.T.builtins G.T.nolimit hg hobj hints (Nat.le_trans hlen hn2) hr hF hb (hsp ns hlen)
end EV
end
section
set_option Elab.async false
set_option linter.all false
set_option maxRecDepth 100000
set_option autoImplicit false
/-! EV23: short words for the printed proofs -/
namespace EV
open PySem PySem.Spec PyProof.Rows L2
def oneLen : List Arg → Option Nat
  | [] => some 0
  | .one _ :: r => (oneLen r).map (· + 1)
  | .star _ :: _ => none
theorem semArgs_len1 : ∀ {fs : List Arg} {s s' : Sg} {rs : List R} {n : Nat}, oneLen fs = some n → semArgs fs s = .ok rs s' → rs.length = n
  | [], s, s', rs, n, h, e => by cases h; cases e; rfl
  | .star f :: fs, s, s', rs, n, h, e => by cases h
  | .one f :: fs, s, s', rs, n, h, e => by
    simp only [oneLen] at h
    cases q : oneLen fs with
    | none => rw [q] at h; cases h
    | some m =>
      rw [q] at h; cases h
      simp only [semArgs] at e
      cases e1 : f s with
      | ok r s1 =>
        rw [e1] at e
        cases e2 : semArgs fs s1 with
        | ok qs s2 =>
          simp only [Re.bind, e2] at e
          cases e
          simp [semArgs_len1 q e2]
        | ex x s2 => simp only [Re.bind, e2] at e; cases e
        | bad => simp only [Re.bind, e2] at e; cases e
      | ex x s1 => rw [e1] at e; cases e
      | bad => rw [e1] at e; cases e
theorem FnE.mono {T : Tx} {j k : Nat} {f : Addr} {fd : FuncData} {ps : List Str} {cs : Cs} (F : FnE T j f fd ps cs) (h : j ≤ k) : FnE T k f fd ps cs :=
  ⟨fun A outer s H args us vs Q E hr => F.run A outer s H args us vs Q E (hr.mono h)⟩
theorem Fun.fnE {T : Tx} {x qual : Str} {st : Stmt} {f : Addr} {fd : FuncData} {N ps : List Str} {nr : List Nat} {k : Nat} {b : SemS} (F : L2.Fun T.K x qual st f fd) (S : FnScope N ps (defScope st)) (hb : DSs T N (defScope st) true nr k (defBody st) b) :
    FnE T (k + 1) f fd ps (mkCs N.length nr b) := by
  obtain ⟨oc, od, kV, doc, pm, an, cdv, ct, osl, rfl, lk, hcd⟩ := F.ex
  exact fnE_of lk hcd S hb
theorem callE_of {T : Tx} {x : Str} {j k n : Nat} {f : Addr} {fd : FuncData} {ps : List Str} {cs : Cs} (F : FnE T j f fd ps cs) (h : j ≤ k) (hm : T.mg x = some (.ref f)) (hk : PySem.W.keepIn T.K (.ref f) = true) (hb : Binds T.K fd ps []) (hl : ps.length = n) : CallE T k x n cs :=
  ⟨f, fd, ps, F.mono h, hm, hk, hb, hl⟩
theorem pa_list : PlainAttrs "list" := PySem.F.plainAttrs_list
theorem pa_dict : PlainAttrs "dict" := PySem.F.plainAttrs_dict
theorem slot_list_append : Slot "list" "append" "list.append" := PySem.F.slot_list_append
theorem slot_list_extend : Slot "list" "extend" "list.extend" := PySem.F.slot_list_extend
theorem slot_list_pop : Slot "list" "pop" "list.pop" := PySem.F.slot_list_pop
theorem slot_list_reverse : Slot "list" "reverse" "list.reverse" := PySem.F.slot_list_reverse
theorem slot_list_count : Slot "list" "count" "list.count" := PySem.F.slot_list_count
theorem slot_list_index : Slot "list" "index" "list.index" := PySem.F.slot_list_index
theorem slot_dict_update : Slot "dict" "update" "dict.update" := PySem.F.slot_dict_update
theorem ty_list_append : typeOf (.builtin "list.append") = pure (.type "method_descriptor") := PySem.F.type_list_append
theorem ty_list_extend : typeOf (.builtin "list.extend") = pure (.type "method_descriptor") := PySem.F.type_list_extend
theorem ty_list_pop : typeOf (.builtin "list.pop") = pure (.type "method_descriptor") := PySem.F.type_list_pop
theorem ty_list_reverse : typeOf (.builtin "list.reverse") = pure (.type "method_descriptor") := PySem.F.type_list_reverse
theorem ty_list_count : typeOf (.builtin "list.count") = pure (.type "method_descriptor") := PySem.F.type_list_count
theorem ty_list_index : typeOf (.builtin "list.index") = pure (.type "method_descriptor") := PySem.F.type_list_index
theorem ty_dict_update : typeOf (.builtin "dict.update") = pure (.type "method_descriptor") := PySem.F.type_dict_update
end EV
end
section
set_option Elab.async false
set_option linter.all false
set_option maxRecDepth 100000
set_option autoImplicit false
namespace EV
open PySem PySem.Spec PyProof.Rows L2
/-! EV24: the kind of an error -/
def oneHot (j : Nat) : List Bool := (List.range 8).map fun i => decide (i = j)
structure KindV (K : PySem.W.Frag) (Cs : List Addr) (names : List Str) (cls : Value) (z : Str) : Prop where
  ex : ∃ (D : Addr) (j : Nat), cls = .ref D ∧ ExcC K D ∧ j < 8 ∧ (∀ i, i < 8 → PySem.W.kitOne K (.ref D) (.ref (Cs.getD i 0)) = some (decide (i = j))) ∧ z = "!" ++ names.getD j ""
section
variable {X : Cx} {σ : Sl} {H : Hp}
theorem false_pss {body : List Stmt} : PSs X body (fun _ _ _ => False) := ⟨fun _ _ _ _ _ _ h => h.elim⟩
/-- isinstance(error, C) -/
def tIsE (D a : Addr) (K : PySem.W.Frag) (i : Nat) (C : Addr) : TE := fun σ H Q => σ[i]? = some (some (.ref a)) ∧ ∃ b, PySem.W.kitOne K (.ref D) (.ref C) = some b ∧ Q (.bl b) H
theorem pe_isE {i : Nat} {D a C : Addr} {oe : Obj} {n c : Str} {p np cp pos : Pos} (E : ExcC X.K D) (hp : (a, oe) ∈ X.pn) (hz : Zc (.ref D) none oe) (hf : ∃ vs, oe.data = .fields vs) (hgi : Gl X "isinstance") (hmi : X.mg "isinstance" = none) (hN : X.N[i]? = some n) (hv : Vis X.env.scope n)
    (hd : (n == ("__debug__" : Str)) = false) (hcd : (n == ("__classdict__" : Str)) = false) (hgc : Gl X c) (hmc : X.mg c = some (.ref C)) (hdc : (c == ("__debug__" : Str)) = false) :
    PE X (.Call (.Name "isinstance" p) [.Name n np, .Name c cp] [] pos) (tIsE D a X.K i C) := by
  have h := pe_callB (p := p) (pos := pos) (cr_isE E hp hz hf) hgi hmi (by decide +kernel) (pa_cons (pe_var (pos := np) hN hv hd hcd) (pa_cons (pe_glob (v := .ref C) (pos := cp) hgc hmc rfl hdc) pa_nil)) (by decide) (by decide)
  refine PEimp h fun σ H Q ⟨h1, b, h2, h3⟩ => ⟨_, h1, ⟨.ref C, .ref C, b, rfl, fun u r => r, h2, h3⟩⟩
end
theorem strsR {K : PySem.W.Frag} {Φ : Hp} : ∀ (ns : List Str), RpA K Φ (ns.map V.str) (ns.map PyData.str)
  | [] => .nil
  | n :: ns => .cons (.str n) (strsR ns)
theorem boolsR {K : PySem.W.Frag} {Φ : Hp} : ∀ (ns : List Bool), RpA K Φ (ns.map V.bl) (ns.map PyData.bool)
  | [] => .nil
  | n :: ns => .cons (.bl n) (boolsR ns)
/-- the reading of: names = [..]; found = [four]; found = found + [four]; the last statement by f -/
theorem kind_reads {T : Tx} {kv : Value → Str → Prop} {D a : Addr} {K : PySem.W.Frag} {Cs : List Addr} {names : List Str} {j : Nat} {z : Str} {f : SemS} {H : Hp} {Q : VK} (hl : names.length = 8) (hk : ∀ i, i < 8 → PySem.W.kitOne K (.ref D) (.ref (Cs.getD i 0)) = some (decide (i = j)))
    (hf : ∃ s', f [.un, .own (.lst (names.map PyData.str)), .own (.lst ((oneHot j).map PyData.bool))] = .rt (.val (.str z)) s') (hQ : ∀ H', Same H H' → Q (.str z) H') :
    tSeq (tAsg (tLst (tCons (tC (.str (names.getD 0 ""))) (tCons (tC (.str (names.getD 1 ""))) (tCons (tC (.str (names.getD 2 ""))) (tCons (tC (.str (names.getD 3 ""))) (tCons (tC (.str (names.getD 4 ""))) (tCons (tC (.str (names.getD 5 ""))) (tCons (tC (.str (names.getD 6 ""))) (tCons (tC (.str (names.getD 7 ""))) tNil))))))))) (gName 1))
    (tSeq (tAsg (tLst (tCons (tIsE D a K 0 (Cs.getD 0 0)) (tCons (tIsE D a K 0 (Cs.getD 1 0)) (tCons (tIsE D a K 0 (Cs.getD 2 0)) (tCons (tIsE D a K 0 (Cs.getD 3 0)) tNil))))) (gName 2))
    (tSeq (tAsg (tOp rCat (tVar 2) (tLst (tCons (tIsE D a K 0 (Cs.getD 4 0)) (tCons (tIsE D a K 0 (Cs.getD 5 0)) (tCons (tIsE D a K 0 (Cs.getD 6 0)) (tCons (tIsE D a K 0 (Cs.getD 7 0)) tNil)))))) (gName 2))
    (tS T.K T.mg (fun _ _ _ _ => False) [] [] f))) { nx := fun _ H' => Q .non H', rt := Q } [some (.ref a), none, none] H := by
  have sz : (8 : Nat) ≤ sizeLine := by decide
  refine ⟨by show 8 ≤ sizeLine; decide, fun p1 h1 => ?_⟩
  refine ⟨rfl, _, hk 0 (by decide), rfl, _, hk 1 (by decide), rfl, _, hk 2 (by decide), rfl, _, hk 3 (by decide), by show 4 ≤ sizeLine; decide, fun p2 h2 => ?_⟩
  refine ⟨_, rfl, rfl, _, hk 4 (by decide), rfl, _, hk 5 (by decide), rfl, _, hk 6 (by decide), rfl, _, hk 7 (by decide), by show 4 ≤ sizeLine; decide, fun p3 h3 => ?_⟩
  have n23 : p2 ≠ p3 := by rintro rfl; rw [upd_same] at h3; cases h3
  refine ⟨p2, p3, _, _, rfl, rfl, by rw [upd_ne n23]; exact upd_same, upd_same, by show 4 + 4 ≤ sizeLine; decide, fun p4 h4 => ?_⟩
  have n34 : p3 ≠ p4 := by rintro rfl; rw [upd_same] at h4; cases h4
  rw [upd_ne n34.symm] at h4
  have n24 : p2 ≠ p4 := by rintro rfl; rw [upd_same] at h4; cases h4
  rw [upd_ne n24.symm] at h4
  have n14 : p1 ≠ p4 := by rintro rfl; rw [upd_same] at h4; cases h4
  have n12 : p1 ≠ p2 := by rintro rfl; rw [upd_same] at h2; cases h2
  rw [upd_ne n23.symm] at h3
  have n13 : p1 ≠ p3 := by rintro rfl; rw [upd_same] at h3; cases h3
  rw [upd_ne n13.symm] at h3
  rw [upd_ne n14.symm] at h4
  rw [upd_ne n12.symm] at h2
  show tS T.K T.mg (fun _ _ _ _ => False) [] [] f _ [some (.ref a), some (.ref p1), some (.ref p4)] _
  obtain ⟨s', hf⟩ := hf
  have Hp4 : ∀ {o : HO} {G : Hp}, upd G p4 o p4 = some o := upd_same
  refine ⟨fun _ => none, [.un, .own (.lst (names.map PyData.str)), .own (.lst ((oneHot j).map PyData.bool))], ⟨fun b o e => (by cases e), rfl, fun i d e => ?_, fun i o e => ?_, fun i l o o' b e1 e2 e3 e4 => ?_⟩, fun i hi => (by cases hi), ?_⟩
  · match i, e with
    | 0, e => cases e
    | 1, e => cases e
    | 2, e => cases e
    | i + 3, e => simp at e
  · match i, e with
    | 0, e => cases e
    | 1, e =>
      cases e
      refine ⟨p1, rfl, rfl, names.map V.str, ?_, strsR names, by rw [List.length_map, hl]; exact sz⟩
      rw [upd_ne n14, upd_ne n13, upd_ne n12, upd_same]
      match names, hl with
      | [x0, x1, x2, x3, x4, x5, x6, x7], _ => rfl
    | 2, e =>
      cases e
      exact ⟨p4, rfl, rfl, (oneHot j).map V.bl, upd_same, boolsR _, by rw [List.length_map]; exact sz⟩
    | i + 3, e => simp at e
  · match i, l, e1, e2 with
    | 0, _, e1, _ => cases e1
    | _, 0, _, e2 => cases e2
    | 1, 1, _, _ => rfl
    | 2, 2, _, _ => rfl
    | 1, 2, _, _ => simp at e3 e4; exact absurd (e3.trans e4.symm) n14
    | 2, 1, _, _ => simp at e3 e4; exact absurd (e4.trans e3.symm) n14
    | i + 3, _, e1, _ => simp at e1
    | _, l + 3, _, e2 => simp at e2
  · rw [hf]
    intro v σ' Φ' H' g' pn' rr _ p'
    have rr : Rp T.K Φ' v (.str z) := rr
    cases rr
    refine hQ H' fun b o e => p'.kp b o ?_ fun ⟨i, o', e1, e2⟩ => ?_
    · have b1 : b ≠ p1 := by rintro rfl; rw [h1] at e; cases e
      have b2 : b ≠ p2 := by rintro rfl; rw [h2] at e; cases e
      have b3 : b ≠ p3 := by rintro rfl; rw [h3] at e; cases e
      have b4 : b ≠ p4 := by rintro rfl; rw [h4] at e; cases e
      rw [upd_ne b4, upd_ne b3, upd_ne b2, upd_ne b1]; exact e
    · match i, e1, e2 with
      | 0, e1, _ => cases e1
      | 1, _, e2 => simp at e2; subst e2; rw [h1] at e; cases e
      | 2, _, e2 => simp at e2; subst e2; rw [h4] at e; cases e
      | i + 3, e1, _ => simp at e1
end EV
end
section
set_option Elab.async false
set_option linter.all false
set_option maxRecDepth 100000
set_option autoImplicit false
/-! EV25: the head's facts -/
namespace EV
open PySem PySem.Spec PyProof.Rows L2
def excCB (K : PySem.W.Frag) (D : Addr) : Bool := He.eqO (PySem.W.findIn K (.ref D) "__getattribute__") (some (some (.builtin "BaseException.__getattribute__"))) && (He.eqO (PySem.W.findIn K (.ref D) "__getattr__") (some none) && (decide (PySem.W.subIn K (.ref D) (.type "BaseException") = some true) &&
  (PySem.W.hasDictIn K D && (He.eqO (PySem.W.findIn K (.ref D) "__class__") (some (some (.builtin "object.__class__"))) && (He.eqO (PySem.W.specialIn K (.builtin "object.__class__") "__get__") (some (some (.builtin "getset_descriptor.__get__"))) &&
  (decide (PySem.W.takesIn K (.builtin "object.__class__") = some true) && decide (PySem.W.mroIn K D (.type "object") = some true)))))))
theorem excC_of {K : PySem.W.Frag} {D : Addr} (h : excCB K D = true) : ExcC K D := by
  obtain ⟨h1, h⟩ := He.ba h
  obtain ⟨h2, h⟩ := He.ba h
  obtain ⟨h3, h⟩ := He.ba h
  obtain ⟨h4, h⟩ := He.ba h
  obtain ⟨h5, h⟩ := He.ba h
  obtain ⟨h6, h⟩ := He.ba h
  obtain ⟨h7, h8⟩ := He.ba h
  exact ⟨He.eqO_ok h1, He.eqO_ok h2, of_decide_eq_true h3, h4, He.eqO_ok h5, He.eqO_ok h6, of_decide_eq_true h7, of_decide_eq_true h8⟩
/-- the eight classes: each is itself, none is another; all are told by the clause -/
def kindB (mk : Str) (cns : List Str) (K : PySem.W.Frag) : Bool := (List.range cns.length).all fun j => excCB K (He.ga K (cns.getD j "")) && (decide (PySem.W.exmOne K (.ref (He.ga K (cns.getD j ""))) (.ref (He.ga K mk)) = some true) &&
  (List.range cns.length).all fun i => decide (PySem.W.kitOne K (.ref (He.ga K (cns.getD j ""))) (.ref (He.ga K (cns.getD i ""))) = some (decide (i = j))))
def kindFn : List Str → List Str → Str → Option Str
  | c :: cs, n :: ns, x => if x = c then some ("!" ++ n) else kindFn cs ns x
  | _, _, _ => none
theorem kindFn_some : ∀ {cs ns : List Str} {x z : Str}, kindFn cs ns x = some z → ∃ j, j < cs.length ∧ cs.getD j "" = x ∧ z = "!" ++ ns.getD j ""
  | [], ns, x, z, h => by cases ns <;> cases h
  | c :: cs, [], x, z, h => by cases h
  | c :: cs, n :: ns, x, z, h => by
    simp only [kindFn] at h
    split at h
    · rename_i e
      cases h
      exact ⟨0, by simp, by simp [e], by simp⟩
    · obtain ⟨j, h1, h2, h3⟩ := kindFn_some h
      exact ⟨j + 1, by simpa using h1, by simpa using h2, by simpa using h3⟩
theorem tryK_of {T : Tx} {mk : Str} {cns names : List Str} (h8 : cns.length = 8) (hk : kindB mk cns T.K = true) (hm : T.mg mk = some (.ref (He.ga T.K mk))) (hc : ∀ j, j < 8 → T.mg (cns.getD j "") = some (.ref (He.ga T.K (cns.getD j "")))) :
    TryK T mk (KindV T.K (cns.map (He.ga T.K)) names) (kindFn cns names) := by
  refine ⟨_, hm, fun c z cls e1 e2 => ?_⟩
  obtain ⟨j, h1, h2, h3⟩ := kindFn_some e1
  rw [h8] at h1
  subst h2
  rw [hc j h1] at e2
  cases e2
  have := List.all_eq_true.mp hk j (by simp [h8, h1])
  obtain ⟨k1, k2⟩ := He.ba this
  obtain ⟨k2, k3⟩ := He.ba k2
  refine ⟨⟨_, j, rfl, excC_of k1, h1, fun i hi => ?_, h3⟩, of_decide_eq_true k2⟩
  have := List.all_eq_true.mp k3 i (by simp [h8, hi])
  have e : (cns.map (He.ga T.K)).getD i 0 = He.ga T.K (cns.getD i "") := by
    rw [List.getD_eq_getElem?_getD, List.getD_eq_getElem?_getD, List.getElem?_map, List.getElem?_eq_getElem (by rw [h8]; exact hi)]
    rfl
  rw [e]
  exact of_decide_eq_true this
theorem errE_of {T : Tx} {x : Str} (hm : T.mg x = some (.ref (He.ga T.K x))) (c : (He.Fa.exc x).ok T.K = true) : ErrE T x := by
  obtain ⟨h1, h2, h3, h4⟩ := He.exc_ok c
  exact ⟨_, "ValueError", "ValueError.__new__", _, _, hm, h2, PySem.F.excBase_ValueError, h1, h3, h4⟩

/-! ### the Hook -/
structure SaysZ (fa : List He.Fa) (fn : List He.DefD) (ex : PySem.W.Frag → Bool) (K : PySem.W.Frag) : Prop where
  d : He.SaysD fa fn K
  more : ex K = true
abbrev AlZ : Type := He.AlD × Bool
def obsZ (n : Nat) (fa : List He.Fa) (fn : List He.DefD) (ex : PySem.W.Frag → Bool) (g : Addr → Option Obj) : AlZ := (He.obsD fa fn (He.frG g (He.asD g n)), ex (He.frG g (He.asD g n)))
def hookZ (n : Nat) (fa : List He.Fa) (fn : List He.DefD) (ex : PySem.W.Frag → Bool) : PySem.W.Hook where
  α := AlZ
  obs := fun s => obsZ n fa fn ex s.heap.get?
  val := fun _ => (He.valD fn, true)
  says := fun _ h => ∃ K : PySem.W.Frag, K.In h ∧ SaysZ fa fn ex K
  of := fun _ _ e => ⟨_, He.frG_in, ⟨congrArg (fun z : AlZ => z.1) e, congrArg (fun z : AlZ => z.2) e⟩⟩
  keeps := fun _ _ _ ⟨K, hK, c⟩ k => ⟨K, PySem.W.Frag.In.keeps hK k, c⟩
theorem obsZ_eq {n : Nat} {fa : List He.Fa} {fn : List He.DefD} {ex : PySem.W.Frag → Bool} {g : Addr → Option Obj} {s : Shared} (h : ∀ a, g a = s.heap.get? a) : obsZ n fa fn ex g = (hookZ n fa fn ex).obs s := by
  have e : g = s.heap.get? := funext h
  rw [e] <;> rfl

/-! ### a def of the text -/
abbrev defD (x : Str) (st : Stmt) : He.DefD := ⟨(x, none), x, x, defArgs st, defBody st, defScope st, [], []⟩
abbrev FnP (K : PySem.W.Frag) (x : Str) (st : Stmt) (f : Addr) (fd : FuncData) : Prop := FunD K x x (defArgs st) (defBody st) (defScope st) [] [] f fd
theorem FunD.fnE {T : Tx} {x qual : Str} {params : Arguments} {body : List Stmt} {scope : Scope} {dvs : List V} {kws : List (Str × V)} {f : Addr} {fd : FuncData} {N ps : List Str} {nr : List Nat} {k : Nat} {b : SemS}
    (F : FunD T.K x qual params body scope dvs kws f fd) (S : FnScope N ps scope) (hb : DSs T N scope true nr k body b) : FnE T (k + 1) f fd ps (mkCs N.length nr b) := by
  obtain ⟨oc, od, dV, kV, doc, pm, an, cdv, ct, osl, rfl, lk, hcd, _, _⟩ := F.ex
  exact fnE_of lk hcd S hb
theorem callK_of {T : Tx} {x qual : Str} {params : Arguments} {body : List Stmt} {scope : Scope} {dvs : List V} {kws : List (Str × V)} {f : Addr} {fd : FuncData} {N : List Str} {k : Nat} {kv : Value → Str → Prop}
    (F : FunD T.K x qual params body scope dvs kws f fd) (S : FnScope N ["error"] scope) (hm : T.mg x = some (.ref f)) (hb : Binds T.K fd ["error"] [])
    (h : ∀ (X : Cx) (p : Addr × Obj) (cls : Value), Fx T N scope false true k X (fun _ _ _ _ => False) → p ∈ X.pn → Zc cls none p.2 → (∃ vs, p.2.data = .fields vs) →
      ∃ t, PSs X body t ∧ ∀ z H Q, kv cls z → (∀ H', Same H H' → Q (.str z) H') → t { nx := fun _ H' => Q .non H', rt := Q } (L2.start N [.ref p.1]) H) : CallK T (k + 1) x kv := by
  have kp := F.kp
  obtain ⟨oc, od, dV, kV, doc, pm, an, cdv, ct, osl, rfl, lk, hcd, _, _⟩ := F.ex
  exact ⟨_, _, kindOk_of lk hcd S h, hm, kp, hb⟩
theorem allN_nil {mg : Str → Option Value} : ∀ x ∈ ([] : List Str), mg x = none := fun x h => absurd h (by simp)
theorem allN_cons {mg : Str → Option Value} {a : Str} {l : List Str} (h : mg a = none) (t : ∀ x ∈ l, mg x = none) : ∀ x ∈ a :: l, mg x = none := fun x hx => (List.mem_cons.mp hx).elim (fun e => e ▸ h) (t x)
theorem bad_fnE {T : Tx} {k : Nat} {f : Addr} {fd : FuncData} {ps : List Str} : FnE T k f fd ps (fun _ => .bad) :=
  ⟨fun A outer s H args us vs Q E _ _ _ _ _ _ _ ⟨_, _, _, h⟩ => h.elim⟩
theorem CallE.mono {T : Tx} {j k n : Nat} {x : Str} {cs : Cs} (C : CallE T j x n cs) (h : j ≤ k) : CallE T k x n cs := by
  obtain ⟨f, fd, ps, F, h1, h2, h3, h4⟩ := C
  exact ⟨f, fd, ps, F.mono h, h1, h2, h3, h4⟩
theorem KindOk.mono {T : Tx} {j k : Nat} {f : Addr} {fd : FuncData} {kv : Value → Str → Prop} (C : KindOk T j f fd kv) (h : j ≤ k) : KindOk T k f fd kv :=
  ⟨fun A outer s H args us p cls z Q E hr => C.run A outer s H args us p cls z Q E (hr.mono h)⟩
theorem CallK.mono {T : Tx} {j k : Nat} {x : Str} {kv : Value → Str → Prop} (C : CallK T j x kv) (h : j ≤ k) : CallK T k x kv := by
  obtain ⟨f, fd, h0, h1, h2, h3⟩ := C
  exact ⟨f, fd, h0.mono h, h1, h2, h3⟩
end EV
end
section
set_option Elab.async false
set_option linter.all false
set_option maxRecDepth 100000
set_option autoImplicit false
/-! EV26: plain lemmas of the readings -/
namespace EV
open PySem PySem.Spec PyProof.Rows L2
section
variable {α β : Type}
theorem bind_ok (a : α) (s : Sg) (f : α → Sg → Re β) : (Re.ok a s).bind f = f a s := rfl
theorem bind_ex (x : Xc) (s : Sg) (f : α → Sg → Re β) : (Re.ex x s : Re α).bind f = .ex x s := rfl
theorem bind_bad (f : α → Sg → Re β) : (Re.bad : Re α).bind f = .bad := rfl
theorem bind_ite (c : Prop) [Decidable c] (a b : Re α) (f : α → Sg → Re β) : (if c then a else b).bind f = if c then a.bind f else b.bind f := by split <;> rfl
theorem bindN_k (a : α) (s : Sg) (f : α → Sg → Re β) : (Re.ok a s).bindN f = f a s := rfl
theorem bindN_ite (c : Prop) [Decidable c] (a b : Re α) (f : α → Sg → Re β) : (if c then a else b).bindN f = if c then a.bindN f else b.bindN f := by split <;> rfl
end
theorem eThen_ok (r : R) (s : Sg) (g : R → Sg → SRe) : eThen (.ok r s) g = g r s := rfl
theorem eThen_ex (x : Xc) (s : Sg) (g : R → Sg → SRe) : eThen (.ex x s) g = .ex x s := rfl
theorem eThen_bad (g : R → Sg → SRe) : eThen .bad g = .bad := rfl
theorem eThen_ite (c : Prop) [Decidable c] (a b : Re R) (g : R → Sg → SRe) : eThen (if c then a else b) g = if c then eThen a g else eThen b g := by split <;> rfl
theorem bThen_ok (r : Bool) (s : Sg) (g : Bool → Sg → SRe) : bThen (.ok r s) g = g r s := rfl
theorem bThen_ex (x : Xc) (s : Sg) (g : Bool → Sg → SRe) : bThen (.ex x s) g = .ex x s := rfl
theorem bThen_ite (c : Prop) [Decidable c] (a b : Re Bool) (g : Bool → Sg → SRe) : bThen (if c then a else b) g = if c then bThen a g else bThen b g := by split <;> rfl
theorem iThen_ok (r : List D) (s : Sg) (g : List D → Sg → SRe) : iThen (.ok r s) g = g r s := rfl
theorem iThen_ex (x : Xc) (s : Sg) (g : List D → Sg → SRe) : iThen (.ex x s) g = .ex x s := rfl
def thenS (r : SRe) (g : SemS) : SRe := match r with
  | .nx s1 => g s1
  | r => r
theorem seqS_eq (f g : SemS) (s : Sg) : semSeqS f g s = thenS (f s) g := by
  unfold semSeqS thenS; split <;> simp_all
theorem thenS_nx (s : Sg) (g : SemS) : thenS (.nx s) g = g s := rfl
theorem thenS_rt (r : R) (s : Sg) (g : SemS) : thenS (.rt r s) g = .rt r s := rfl
theorem thenS_ex (r : Xc) (s : Sg) (g : SemS) : thenS (.ex r s) g = .ex r s := rfl
theorem thenS_bk (s : Sg) (g : SemS) : thenS (.bk s) g = .bk s := rfl
theorem thenS_ct (s : Sg) (g : SemS) : thenS (.ct s) g = .ct s := rfl
theorem thenS_bad (g : SemS) : thenS .bad g = .bad := rfl
theorem thenS_ite (c : Prop) [Decidable c] (a b : SRe) (g : SemS) : thenS (if c then a else b) g = if c then thenS a g else thenS b g := by split <;> rfl
/-- what a call hands out -/
def outC (nr : List Nat) (n : Nat) (r : SRe) : CRe := match r with
  | .nx s => .ok (.val .none) (outPs nr n s)
  | .rt r s => match r with
    | .slot _ => .bad
    | r => .ok r (outPs nr n s)
  | .ex x s => .ex x (outPs nr n s)
  | _ => .bad
theorem mkCs_eq (m : Nat) (nr : List Nat) (f : SemS) (args : List SV) : mkCs m nr f args = outC nr args.length (f (args ++ List.replicate (m - args.length) SV.un)) := by
  unfold mkCs outC; rfl
theorem outC_nx (nr : List Nat) (n : Nat) (s : Sg) : outC nr n (.nx s) = .ok (.val .none) (outPs nr n s) := rfl
theorem outC_val (nr : List Nat) (n : Nat) (d : D) (s : Sg) : outC nr n (.rt (.val d) s) = .ok (.val d) (outPs nr n s) := rfl
theorem outC_own (nr : List Nat) (n : Nat) (d : O) (s : Sg) : outC nr n (.rt (.own d) s) = .ok (.own d) (outPs nr n s) := rfl
theorem outC_ex (nr : List Nat) (n : Nat) (x : Xc) (s : Sg) : outC nr n (.ex x s) = .ex x (outPs nr n s) := rfl
theorem outC_ite (nr : List Nat) (n : Nat) (c : Prop) [Decidable c] (a b : SRe) : outC nr n (if c then a else b) = if c then outC nr n a else outC nr n b := by split <;> rfl
/-- what the caller gets -/
def backC (rs : List R) (s : Sg) (c : CRe) : Re R := match c with
  | .ok (.slot _) _ => .bad
  | .ok r ps => .ok r (backs rs ps s)
  | .ex x ps => .ex x (backs rs ps s)
  | .bad => .bad
theorem callBack_eq (cs : Cs) (rs : List R) (s : Sg) : callBack cs rs s = if nodupN (slotsOf rs) = true then backC rs s (cs (rs.map (argSV s))) else .bad := by
  unfold callBack backC; rfl
theorem backC_val (rs : List R) (s : Sg) (d : D) (ps : List SV) : backC rs s (.ok (.val d) ps) = .ok (.val d) (backs rs ps s) := rfl
theorem backC_own (rs : List R) (s : Sg) (d : O) (ps : List SV) : backC rs s (.ok (.own d) ps) = .ok (.own d) (backs rs ps s) := rfl
theorem backC_ex (rs : List R) (s : Sg) (x : Xc) (ps : List SV) : backC rs s (.ex x ps) = .ex x (backs rs ps s) := rfl
theorem backC_ite (rs : List R) (s : Sg) (c : Prop) [Decidable c] (a b : CRe) : backC rs s (if c then a else b) = if c then backC rs s a else backC rs s b := by split <;> rfl
/-- an operator's answer -/
def ans (o : Option R) (s : Sg) : Re R := match o with
  | some q => .ok q s
  | none => .bad
theorem app1_eq (p : D → Option R) (r : R) (s : Sg) : app1 p r s = ans ((r.get s).bind p) s := by unfold app1 ans; rfl
theorem app2_eq (p : D → D → Option R) (r r' : R) (s : Sg) : app2 p r r' s = ans ((r.get s).bind fun d => (r'.get s).bind (p d)) s := by unfold app2 ans; rfl
theorem appn_eq (p : List D → Option R) (rs : List R) (s : Sg) : appn p rs s = ans ((getAll s rs).bind p) s := by unfold appn ans; rfl
theorem appm_eq (p : D → List D → Option R) (r : R) (rs : List R) (s : Sg) : appm p r rs s = ans ((r.get s).bind fun d => (getAll s rs).bind (p d)) s := by unfold appm ans; rfl
theorem ans_some (q : R) (s : Sg) : ans (some q) s = .ok q s := rfl
theorem ans_none (s : Sg) : ans none s = .bad := rfl
theorem ans_ite (c : Prop) [Decidable c] (a b : Option R) (s : Sg) : ans (if c then a else b) s = if c then ans a s else ans b s := by split <;> rfl
def ansB (o : Option R) (s : Sg) : Re Bool := match o with
  | some (.val (.bool b)) => .ok b s
  | _ => .bad
theorem asB_eq (p : D → D → Option R) (r r' : R) (s : Sg) : asB p r r' s = ansB ((r.get s).bind fun d => (r'.get s).bind (p d)) s := by unfold asB ansB; rfl
theorem ansB_some (b : Bool) (s : Sg) : ansB (some (.val (.bool b))) s = .ok b s := rfl
theorem ansB_ite (c : Prop) [Decidable c] (a b : Option R) (s : Sg) : ansB (if c then a else b) s = if c then ansB a s else ansB b s := by split <;> rfl
def tryS (kindOf : Str → Option Str) (i : Nat) (r : SRe) : SRe := match r with
  | .ex x s' => match x.p with
    | none => match kindOf x.c with
      | some z => if i < s'.length then .rt (.val (.str z)) (s'.set i .un) else .bad
      | none => .bad
    | some _ => .bad
  | r => r
theorem try_eq (kindOf : Str → Option Str) (i : Nat) (fb : SemS) (s : Sg) : semTry kindOf i fb s = tryS kindOf i (fb s) := by
  unfold semTry tryS; rfl
theorem tryS_nx (kindOf : Str → Option Str) (i : Nat) (s : Sg) : tryS kindOf i (.nx s) = .nx s := rfl
theorem tryS_rt (kindOf : Str → Option Str) (i : Nat) (r : R) (s : Sg) : tryS kindOf i (.rt r s) = .rt r s := rfl
theorem tryS_ex {kindOf : Str → Option Str} {i : Nat} {c z : Str} {s : Sg} (h : kindOf c = some z) (hi : i < s.length) : tryS kindOf i (.ex ⟨c, none⟩ s) = .rt (.val (.str z)) (s.set i .un) := by
  simp only [tryS, h, if_pos hi]
/-! ### data -/
theorem eqv_int (i j : Int) : PyData.eqv (.int i) (.int j) = decide (i = j) := by
  by_cases h : i = j <;> simp [PyData.eqv, h]
theorem eqv_str (i j : Str) : PyData.eqv (.str i) (.str j) = decide (i = j) := by
  by_cases h : i = j <;> simp [PyData.eqv, h]
theorem shp_int (i : Int) : shp (.int i) = true := rfl
theorem shp_str (i : Str) : shp (.str i) = PyData.strOk i := by
  show (PyData.strOk i && decide (PyData.depth (.str i) ≤ 64)) = _
  have : PyData.depth (.str i) = 0 := by simp [PyData.depth]
  rw [this]; simp
theorem pEq_int (i j : Int) : pEq (.int i) (.int j) = some (.val (.bool (decide (i = j)))) := by
  unfold pEq; rw [shp_int, shp_int, eqv_int]; rfl
theorem pNe_int (i j : Int) : pNe (.int i) (.int j) = some (.val (.bool (!decide (i = j)))) := by
  unfold pNe; rw [shp_int, shp_int, eqv_int]; rfl
theorem pEq_str (i j : Str) : pEq (.str i) (.str j) = if (PyData.strOk i && PyData.strOk j) = true then some (.val (.bool (decide (i = j)))) else none := by
  unfold pEq; rw [shp_str, shp_str, eqv_str]
theorem pNe_str (i j : Str) : pNe (.str i) (.str j) = if (PyData.strOk i && PyData.strOk j) = true then some (.val (.bool (!decide (i = j)))) else none := by
  unfold pNe; rw [shp_str, shp_str, eqv_str]
theorem boolsD_map (bs : List Bool) : boolsD (bs.map PyData.bool) = some bs := by
  induction bs with
  | nil => rfl
  | cons b bs ih => simp [boolsD, ih]
theorem boolsD_of {α : Type} (p : α → Bool) (ds : List α) : boolsD (ds.map fun d => PyData.bool (p d)) = some (ds.map p) := by
  have := boolsD_map (ds.map p)
  rwa [List.map_map] at this
theorem pAll_of {α : Type} (p : α → Bool) (ds : List α) : pAll [.list (ds.map fun d => PyData.bool (p d))] = some (.val (.bool (ds.all p))) := by
  unfold pAll
  simp only [boolsD_of, Option.map]
  congr 3
  induction ds <;> simp_all
theorem pAny_of {α : Type} (p : α → Bool) (ds : List α) : pAny [.list (ds.map fun d => PyData.bool (p d))] = some (.val (.bool (ds.any p))) := by
  unfold pAny
  simp only [boolsD_of, Option.map]
  congr 3
  induction ds <;> simp_all
theorem pAll_true (ds : List D) : pAll [.list (ds.map fun _ => PyData.bool true)] = some (.val (.bool true)) := by
  rw [pAll_of (fun _ => true)]
  congr 3
  induction ds <;> simp_all
theorem pAll_map {α : Type} (f : α → D) (l : List α) (h : ∀ x ∈ l, f x = .bool true) : pAll [.list (l.map f)] = some (.val (.bool true)) := by
  have e : l.map f = l.map fun _ => PyData.bool true := List.map_congr_left h
  rw [e, pAll_of (fun _ => true)]
  congr 3
  induction l <;> simp_all
theorem intsD_map (ns : List Int) : intsD (ns.map PyData.int) = some ns := by
  induction ns with
  | nil => rfl
  | cons b bs ih => simp [intsD, ih]
theorem intsD_mapf {α : Type} (f : α → Int) (l : List α) : intsD (l.map fun p => PyData.int (f p)) = some (l.map f) := by
  have := intsD_map (l.map f)
  rwa [List.map_map] at this
theorem pMax_two (i j : Int) : pMax [.int i, .int j] = some (.val (.int (if j > i then j else i))) := rfl
theorem pMin_two (i j : Int) : pMin [.int i, .int j] = some (.val (.int (if j < i then j else i))) := rfl
theorem pMax_map {α : Type} (f : α → Int) (l : List α) (h : l ≠ []) : pMax [.list (l.map fun p => .int (f p))] = some (.val (.int (maxI (l.map f)))) := by
  simp only [pMax, intsSeq, intsD_mapf, Option.bind]
  cases l with
  | nil => exact absurd rfl h
  | cons a l => simp
theorem pMin_map {α : Type} (f : α → Int) (l : List α) (h : l ≠ []) : pMin [.list (l.map fun p => .int (f p))] = some (.val (.int (minI (l.map f)))) := by
  simp only [pMin, intsSeq, intsD_mapf, Option.bind]
  cases l with
  | nil => exact absurd rfl h
  | cons a l => simp
theorem pMaxT_map {α : Type} (f : α → Int) (l : List α) (h : l ≠ []) : pMax [.tuple (l.map fun p => .int (f p))] = some (.val (.int (maxI (l.map f)))) := pMax_map f l h
theorem pMinT_map {α : Type} (f : α → Int) (l : List α) (h : l ≠ []) : pMin [.tuple (l.map fun p => .int (f p))] = some (.val (.int (minI (l.map f)))) := pMin_map f l h
theorem pSum_map {α : Type} (f : α → Int) (l : List α) : pSum [.list (l.map fun p => .int (f p))] = some (.val (.int (l.map f).sum)) := by
  simp only [pSum, intsSeq, intsD_mapf, Option.map]
theorem pSumT_map {α : Type} (f : α → Int) (l : List α) : pSum [.tuple (l.map fun p => .int (f p))] = some (.val (.int (l.map f).sum)) := by
  simp only [pSum, intsSeq, intsD_mapf, Option.map]
theorem atN {α : Type} {xs : List α} {j : Nat} {x : α} (h : xs[j]? = some x) : atI xs (j : Int) = some x := by
  have hj := (List.getElem?_eq_some_iff.mp h).1
  unfold atI ixN
  rw [if_pos (by omega), if_pos (by omega)]
  simpa using h
theorem atI_of {α : Type} {xs : List α} {i : Int} {x : α} (h0 : 0 ≤ i) (h : xs[i.toNat]? = some x) : atI xs i = some x := by
  have := atN h
  rwa [Int.toNat_of_nonneg h0] at this
theorem at_0 {α : Type} (a : α) (l : List α) : atI (a :: l) 0 = some a := atI_of (by decide) rfl
theorem at_1 {α : Type} (a b : α) (l : List α) : atI (a :: b :: l) 1 = some b := atI_of (by decide) rfl
theorem at_2 {α : Type} (a b c : α) (l : List α) : atI (a :: b :: c :: l) 2 = some c := atI_of (by decide) rfl
theorem at_3 {α : Type} (a b c d : α) (l : List α) : atI (a :: b :: c :: d :: l) 3 = some d := atI_of (by decide) rfl
theorem at_4 {α : Type} (a b c d e : α) (l : List α) : atI (a :: b :: c :: d :: e :: l) 4 = some e := atI_of (by decide) rfl
theorem map_range_getD {α β : Type} (F : α → β) (x : α) (l : List α) : (List.range l.length).map (fun m => F (l.getD m x)) = l.map F := by
  apply List.ext_getElem
  · simp
  · intro i h1 h2
    simp at h1 h2
    simp [List.getD_eq_getElem?_getD, h2]
theorem range_of {i j : Int} (h1 : -1000000 ≤ i) (h2 : i ≤ 1000000) (h3 : -1000000 ≤ j) (h4 : j ≤ 1000000) : rangeOk i j = true := by
  have z : (j - i).toNat ≤ sizeLine := Nat.le_trans (show (j - i).toNat ≤ 2000000 by omega) (by rw [sizeLine_eq]; decide)
  unfold rangeOk
  simp only [Bool.and_eq_true, decide_eq_true_eq, absLe_iff]
  exact ⟨⟨⟨by omega, by omega⟩, by omega, by omega⟩, z⟩
theorem absLe_of {i : Int} {m : Nat} (h1 : -(m : Int) ≤ i) (h2 : i ≤ m) : absLe i m = true := absLe_iff.mpr ⟨h1, h2⟩
theorem bit64_in {i : Int} (h1 : -18446744073709551615 ≤ i) (h2 : i ≤ 18446744073709551615) : bit64 i = true := absLe_iff.mpr ⟨h1, h2⟩
theorem rangeD_zero (n : Nat) : rangeD 0 n = (List.range n).map fun m : Nat => PyData.int (m : Int) := by
  unfold rangeD; simp
theorem szOk_of {n : Nat} (h : n ≤ 1000000) : szOk n = true := decide_eq_true (Nat.le_trans h (by rw [sizeLine_eq]; decide))
theorem le_size {n : Nat} (h : n ≤ 1000000) : n ≤ sizeLine := Nat.le_trans h (by rw [sizeLine_eq]; decide)
theorem lt_size' {n : Nat} (h : n ≤ 1000000) : n < sizeLine := Nat.lt_of_le_of_lt h (by rw [sizeLine_eq]; decide)
/-! ### loops -/
theorem forLoop_nil (t : Tg) (b : SemS) (s : Sg) : forLoop t b [] s = .nx s := rfl
/-- a loop whose body goes on to the next turn each time -/
theorem forLoop_ind {t : Tg} {b : SemS} (P : Nat → Sg → Prop) : ∀ (ds : List D) (k : Nat) (s : Sg), (∀ i d s, ds[i]? = some d → P (k + i) s → ∃ s1, t.bind d s = some s1 ∧ ∃ s2, (b s1 = .nx s2 ∨ b s1 = .ct s2) ∧ P (k + i + 1) s2) → P k s → ∃ s', forLoop t b ds s = .nx s' ∧ P (k + ds.length) s'
  | [], k, s, _, h0 => ⟨s, rfl, h0⟩
  | d :: ds, k, s, st, h0 => by
    obtain ⟨s1, e1, s2, e2, h2⟩ := st 0 d s rfl h0
    obtain ⟨s', e3, h3⟩ := forLoop_ind P ds (k + 1) s2 (fun i d' s' e h => by
      have := st (i + 1) d' s' (by simpa using e) (by rw [show k + (i + 1) = k + 1 + i by omega]; exact h)
      rwa [show k + (i + 1) + 1 = k + 1 + i + 1 by omega] at this) h2
    refine ⟨s', ?_, by rw [List.length_cons, show k + (ds.length + 1) = k + 1 + ds.length by omega]; exact h3⟩
    simp only [forLoop, e1]
    rcases e2 with e2 | e2 <;> rw [e2] <;> exact e3
theorem forLoop_run {t : Tg} {b : SemS} (P : Nat → Sg → Prop) {ds : List D} {s : Sg} (h0 : P 0 s) (st : ∀ i d s, ds[i]? = some d → P i s → ∃ s1, t.bind d s = some s1 ∧ ∃ s2, (b s1 = .nx s2 ∨ b s1 = .ct s2) ∧ P (i + 1) s2) : ∃ s', forLoop t b ds s = .nx s' ∧ P ds.length s' := by
  have := forLoop_ind (t := t) (b := b) P ds 0 s (by simpa using st) h0
  simpa using this
/-- a loop that may break off -/
theorem forLoop_brk {t : Tg} {b : SemS} (N : Nat) (P : Nat → Sg → Prop) : ∀ (ds : List D) (k : Nat) (s : Sg), (∀ i d s, i < N → d ∈ ds → P i s → ∃ s1, t.bind d s = some s1 ∧ ∃ s2, ((b s1 = .nx s2 ∨ b s1 = .ct s2) ∧ P (i + 1) s2) ∨ (b s1 = .bk s2 ∧ P i s2)) → k + ds.length ≤ N → P k s → ∃ s' i, i ≤ ds.length ∧ forLoop t b ds s = .nx s' ∧ P (k + i) s'
  | [], k, s, _, _, h0 => ⟨s, 0, Nat.le_refl _, rfl, h0⟩
  | d :: ds, k, s, st, hN, h0 => by
    rw [List.length_cons] at hN
    obtain ⟨s1, e1, s2, h⟩ := st k d s (by omega) (List.mem_cons_self ..) h0
    rcases h with ⟨e2, h2⟩ | ⟨e2, h2⟩
    · obtain ⟨s', i, hi, e3, h3⟩ := forLoop_brk N P ds (k + 1) s2 (fun i d' s' hi hd => st i d' s' hi (List.mem_cons_of_mem _ hd)) (by omega) h2
      refine ⟨s', i + 1, by simp; omega, ?_, by rw [show k + (i + 1) = k + 1 + i by omega]; exact h3⟩
      simp only [forLoop, e1]
      rcases e2 with e2 | e2 <;> rw [e2] <;> exact e3
    · refine ⟨s2, 0, by omega, ?_, h2⟩
      simp only [forLoop, e1, e2]
/-- a loop that folds: S what the slots hold at a, x the loop's own slots -/
theorem forLoop_fold {A α B : Type} {t : Tg} {b : SemS} (f : α → D) (S : A → B → Sg) (step : A → α → A) (I : A → Prop) : ∀ (l : List α) (a : A) (x : B), I a →
    (∀ d ∈ l, ∀ a x, I a → ∃ s1, t.bind (f d) (S a x) = some s1 ∧ ∃ x', b s1 = .nx (S (step a d) x') ∧ I (step a d)) → ∃ x', forLoop t b (l.map f) (S a x) = .nx (S (l.foldl step a) x') ∧ I (l.foldl step a)
  | [], a, x, h, _ => ⟨x, rfl, h⟩
  | d :: l, a, x, h, st => by
    obtain ⟨s1, e1, x1, e2, h2⟩ := st d (List.mem_cons_self ..) a x h
    obtain ⟨x', e3, h3⟩ := forLoop_fold f S step I l (step a d) x1 h2 fun d' hd => st d' (List.mem_cons_of_mem _ hd)
    exact ⟨x', by simp only [List.map_cons, forLoop, e1, e2]; exact e3, h3⟩
/-- a comprehension, item by item -/
theorem compLoop_ind {vs : List Nat} {t : Tg} {c : SemB} {f : Sem} (P : Nat → Sg → Prop) (G : Nat → D → Prop) : ∀ (ds : List D) (k : Nat) (s : Sg),
    (∀ i d s, ds[i]? = some d → P (k + i) s → ∃ s1, t.bind d s = some s1 ∧ ∃ s2, c s1 = .ok true s2 ∧ ∃ y s3, f s2 = .ok (.val y) s3 ∧ G (k + i) y ∧ P (k + i + 1) (unS vs s3)) → P k (unS vs s) →
    ∃ ys s', compLoop vs t c f ds s = .ok ys s' ∧ P (k + ds.length) s' ∧ ys.length = ds.length ∧ ∀ i y, ys[i]? = some y → G (k + i) y
  | [], k, s, _, h0 => ⟨[], _, rfl, h0, rfl, fun i y e => by simp at e⟩
  | d :: ds, k, s, st, h0 => by
    obtain ⟨s1, e1, s2, e2, y, s3, e3, hG, h2⟩ := st 0 d _ rfl h0
    obtain ⟨ys, s', e4, h3, h4, h5⟩ := compLoop_ind P G ds (k + 1) s3 (fun i d' s' e h => by
      have := st (i + 1) d' s' (by simpa using e) (by rw [show k + (i + 1) = k + 1 + i by omega]; exact h)
      rwa [show k + (i + 1) = k + 1 + i by omega] at this) h2
    refine ⟨y :: ys, s', ?_, by rw [List.length_cons, show k + (ds.length + 1) = k + 1 + ds.length by omega]; exact h3, by simp [h4], fun i z e => ?_⟩
    · simp only [compLoop, e1, e2, Re.bindN, if_true, e3, e4]
    · cases i with
      | zero => simp at e; subst e; exact hG
      | succ i =>
        have := h5 i z (by simpa using e)
        rwa [show k + (i + 1) = k + 1 + i by omega]
theorem compLoop_run {vs : List Nat} {t : Tg} {c : SemB} {f : Sem} (P : Nat → Sg → Prop) (G : Nat → D → Prop) {ds : List D} {s : Sg} (h0 : P 0 (unS vs s))
    (st : ∀ i d s, ds[i]? = some d → P i s → ∃ s1, t.bind d s = some s1 ∧ ∃ s2, c s1 = .ok true s2 ∧ ∃ y s3, f s2 = .ok (.val y) s3 ∧ G i y ∧ P (i + 1) (unS vs s3)) :
    ∃ ys s', compLoop vs t c f ds s = .ok ys s' ∧ P ds.length s' ∧ ys.length = ds.length ∧ ∀ i y, ys[i]? = some y → G i y := by
  have := compLoop_ind (vs := vs) (t := t) (c := c) (f := f) P G ds 0 s (by simpa using st) h0
  simpa using this
/-- one that changes nothing else: a map -/
theorem compLoop_map {vs : List Nat} {t : Tg} {c : SemB} {f : Sem} (g : D → D) (S : Sg) : ∀ (ds : List D) (s : Sg), unS vs s = S → (∀ d ∈ ds, ∃ s1, t.bind d S = some s1 ∧ ∃ s2, c s1 = .ok true s2 ∧ ∃ s3, f s2 = .ok (.val (g d)) s3 ∧ unS vs s3 = S) →
    compLoop vs t c f ds s = .ok (ds.map g) S
  | [], s, h0, _ => by simp only [compLoop, h0, List.map_nil]
  | d :: ds, s, h0, st => by
    obtain ⟨s1, e1, s2, e2, s3, e3, h3⟩ := st d (List.mem_cons_self ..)
    have ih := compLoop_map (vs := vs) (t := t) (c := c) (f := f) g S ds s3 h3 fun d hd => st d (List.mem_cons_of_mem _ hd)
    simp only [compLoop, h0, e1, e2, Re.bindN, if_true, e3, ih, List.map_cons]
theorem compLoop_mapOf {α : Type} {vs : List Nat} {t : Tg} {c : SemB} {f : Sem} (h : α → D) (g : α → D) (S : Sg) (l : List α) (s : Sg) (h0 : unS vs s = S) (st : ∀ d ∈ l, ∃ s1, t.bind (h d) S = some s1 ∧ ∃ s2, c s1 = .ok true s2 ∧ ∃ s3, f s2 = .ok (.val (g d)) s3 ∧ unS vs s3 = S) :
    compLoop vs t c f (l.map h) s = .ok (l.map g) S := by
  induction l generalizing s with
  | nil => simp only [List.map_nil, compLoop, h0]
  | cons d l ih =>
    obtain ⟨s1, e1, s2, e2, s3, e3, h3⟩ := st d (List.mem_cons_self ..)
    have ih := ih s3 h3 fun d hd => st d (List.mem_cons_of_mem _ hd)
    simp only [List.map_cons, compLoop, h0, e1, e2, Re.bindN, if_true, e3, ih]
theorem compLoop_mapP {α : Type} {vs : List Nat} {t : Tg} {c : SemB} {f : Sem} (h : α → D) (g : α → D) (P : Sg → Prop) (l : List α) (s : Sg) (h0 : P (unS vs s)) (st : ∀ d ∈ l, ∀ s, P s → ∃ s1, t.bind (h d) s = some s1 ∧ ∃ s2, c s1 = .ok true s2 ∧ ∃ s3, f s2 = .ok (.val (g d)) s3 ∧ P (unS vs s3)) :
    ∃ s', compLoop vs t c f (l.map h) s = .ok (l.map g) s' ∧ P s' := by
  induction l generalizing s with
  | nil => exact ⟨_, rfl, h0⟩
  | cons d l ih =>
    obtain ⟨s1, e1, s2, e2, s3, e3, h3⟩ := st d (List.mem_cons_self ..) _ h0
    obtain ⟨s', e4, h4⟩ := ih s3 h3 fun d hd => st d (List.mem_cons_of_mem _ hd)
    exact ⟨s', by simp only [List.map_cons, compLoop, e1, e2, Re.bindN, if_true, e3, e4], h4⟩
/-- a map that keeps what the test says -/
theorem compLoop_filter {vs : List Nat} {t : Tg} {c : SemB} {f : Sem} (p : D → Bool) (g : D → D) (S : Sg) : ∀ (ds : List D) (s : Sg), unS vs s = S →
    (∀ d ∈ ds, ∃ s1, t.bind d S = some s1 ∧ ∃ s2, c s1 = .ok (p d) s2 ∧ unS vs s2 = S ∧ (p d = true → ∃ s3, f s2 = .ok (.val (g d)) s3 ∧ unS vs s3 = S)) →
    compLoop vs t c f ds s = .ok ((ds.filter p).map g) S
  | [], s, h0, _ => by simp only [compLoop, h0, List.map_nil, List.filter_nil]
  | d :: ds, s, h0, st => by
    obtain ⟨s1, e1, s2, e2, e2', st'⟩ := st d (List.mem_cons_self ..)
    cases hp : p d with
    | true =>
      obtain ⟨s3, e3, h3⟩ := st' hp
      have ih := compLoop_filter (vs := vs) (t := t) (c := c) (f := f) p g S ds s3 h3 fun d hd => st d (List.mem_cons_of_mem _ hd)
      simp only [compLoop, h0, e1, e2, hp, Re.bindN, if_true, e3, ih, List.map_cons, List.filter_cons]
    | false =>
      have ih := compLoop_filter (vs := vs) (t := t) (c := c) (f := f) p g S ds s2 e2' fun d hd => st d (List.mem_cons_of_mem _ hd)
      simp only [compLoop, h0, e1, e2, hp, Re.bindN, Bool.false_eq_true, if_false, ih, List.filter_cons]
end EV
end
section
set_option Elab.async false
set_option linter.all false
set_option maxRecDepth 100000
set_option autoImplicit false
namespace EV
open PySem PySem.Spec PyProof.Rows
/-! ### texts of repr -/
def OkS (x : Str) : Prop := ∀ c ∈ x.cps.toList, c < 0x110000
theorem okS_iff {x : Str} : PyData.strOk x = true ↔ OkS x := by
  unfold PyData.strOk OkS
  rw [← Array.all_toList, List.all_eq_true]
  simp
theorem OkS.append {x y : Str} (hx : OkS x) (hy : OkS y) : OkS (x ++ y) := by
  intro c hc
  have : (x ++ y).cps.toList = x.cps.toList ++ y.cps.toList := by
    show (x.cps ++ y.cps).toList = _
    simp
  rw [this] at hc
  rcases List.mem_append.mp hc with h | h
  · exact hx c h
  · exact hy c h
theorem char_ok (c : Char) : c.toNat < 0x110000 := by
  have h := c.valid
  unfold UInt32.isValidChar Nat.isValidChar at h
  unfold Char.toNat
  omega
theorem reprChar_ok {q c : Nat} (h : c < 0x110000) (hq : q < 0x110000) : ∀ d ∈ Builtin.Str.reprChar q c, d < 0x110000 := by
  have hex : ∀ w d, d ∈ (List.replicate (w - ((Nat.toDigits 16 c).map Char.toNat).length) 48 ++ (Nat.toDigits 16 c).map Char.toNat) → d < 0x110000 := by
    intro w d hd
    rcases List.mem_append.mp hd with h | h
    · rw [(List.mem_replicate.mp h).2]; decide
    · obtain ⟨c', -, rfl⟩ := List.mem_map.mp h
      exact char_ok c'
  intro d hd
  unfold Builtin.Str.reprChar at hd
  dsimp only at hd
  repeat' split at hd
  all_goals first
    | (simp at hd; omega)
    | (rcases List.mem_append.mp hd with h | h
       · simp at h; omega
       · exact hex _ _ h)
theorem OkS.repr {x : Str} (h : OkS x) : OkS (reprText x) := by
  have key : ∀ (q : Nat), q < 0x110000 → ∀ (l : List Nat) (acc : Array Nat), (∀ c ∈ l, c < 0x110000) → (∀ c ∈ acc.toList, c < 0x110000) → ∀ c ∈ (l.foldl (fun out c => out ++ (Builtin.Str.reprChar q c).toArray) acc).toList, c < 0x110000 := by
    intro q hq l
    induction l with
    | nil => intro acc _ ha; exact ha
    | cons c l ih =>
      intro acc hl ha
      refine ih _ (fun d hd => hl d (List.mem_cons_of_mem _ hd)) fun d hd => ?_
      simp only [Array.toList_append, List.mem_append] at hd
      rcases hd with hd | hd
      · exact ha d hd
      · exact reprChar_ok (hl c (List.mem_cons_self ..)) hq d hd
  have hq : reprQuote x < 0x110000 := by unfold reprQuote; split <;> decide
  intro c hc
  unfold reprText at hc
  simp only [Array.toList_push, List.mem_append, ← Array.foldl_toList] at hc
  rcases hc with hc | hc
  · exact key _ hq _ _ h (fun c hc => by simp at hc; omega) c hc
  · simp at hc; omega
theorem okS_lit {x : String} (h : PyData.strOk (x : Str) = true) : OkS (x : Str) := okS_iff.mp h
theorem OkS.listText {ts : List Str} (h : ∀ t ∈ ts, OkS t) : OkS (listText ts) := by
  have key : ∀ (ts : List Str) (k : Nat) (acc : Str), (∀ t ∈ ts, OkS t) → OkS acc → OkS (textFrom k acc ts) := by
    intro ts
    induction ts with
    | nil => intro k acc _ ha; exact ha
    | cons t ts ih =>
      intro k acc hl ha
      refine ih _ _ (fun d hd => hl d (List.mem_cons_of_mem _ hd)) ?_
      refine OkS.append (OkS.append ha ?_) (hl t (List.mem_cons_self ..))
      split
      · exact okS_lit (by decide +kernel)
      · exact okS_lit (by decide +kernel)
  exact OkS.append (key ts 0 _ h (okS_lit (by decide +kernel))) (okS_lit (by decide +kernel))
theorem OkS.join {ts : List Str} (h : ∀ t ∈ ts, OkS t) : OkS (Str.join ", " ts) := by
  match ts, h with
  | [], _ => exact okS_lit (x := "") (by decide +kernel)
  | t :: r, h =>
    have key : ∀ (r : List Str) (acc : Str), (∀ t ∈ r, OkS t) → OkS acc → OkS (r.foldl (fun acc t => acc ++ ", " ++ t) acc) := by
      intro r
      induction r with
      | nil => intro acc _ ha; exact ha
      | cons t r ih =>
        intro acc hl ha
        exact ih _ (fun d hd => hl d (List.mem_cons_of_mem _ hd)) (OkS.append (OkS.append ha (okS_lit (by decide +kernel))) (hl t (List.mem_cons_self ..)))
    induction r generalizing t with
    | nil => exact h t (List.mem_cons_self ..)
    | cons u r ih =>
      show OkS (t ++ ", " ++ Str.join ", " (u :: r))
      exact OkS.append (OkS.append (h t (List.mem_cons_self ..)) (okS_lit (by decide +kernel))) (ih u fun v hv => h v (List.mem_cons_of_mem _ hv))
theorem OkS.tupleText {ts : List Str} (h : ∀ t ∈ ts, OkS t) : OkS (tupleText ts) := by
  refine OkS.append (OkS.append (okS_lit (by decide +kernel)) (OkS.join h)) ?_
  split
  · exact okS_lit (by decide +kernel)
  · exact okS_lit (by decide +kernel)
mutual
/-- small data: no dict, ints of less than twelve figures -/
def smD : PyData → Bool
  | .none => true
  | .bool _ => true
  | .int i => decide (i.natAbs < 100000000000)
  | .str x => PyData.strOk x
  | .list xs => smAll xs
  | .tuple xs => smAll xs
  | .dict _ => false
def smAll : List PyData → Bool
  | [] => true
  | x :: xs => smD x && smAll xs
end
mutual
def wD : PyData → Nat
  | .none => 0
  | .bool _ => 0
  | .int _ => 40
  | .str x => x.cps.size
  | .list xs => wAll xs
  | .tuple xs => wAll xs
  | .dict _ => 0
def wAll : List PyData → Nat
  | [] => 0
  | x :: xs => wD x + 1 + wAll xs
end
theorem smInt {i : Int} (h : i.natAbs < 100000000000) : i.natAbs.log2 < 40 := by
  by_cases h0 : i.natAbs = 0
  · rw [h0]; decide
  · exact (Nat.log2_lt h0).mpr (Nat.lt_of_lt_of_le h (by decide))
mutual
theorem smD_hasDict : ∀ d : PyData, smD d = true → d.hasDict = false
  | .none, _ => by simp only [PyData.hasDict]
  | .bool _, _ => by simp only [PyData.hasDict]
  | .int _, _ => by simp only [PyData.hasDict]
  | .str _, _ => by simp only [PyData.hasDict]
  | .list xs, h => by
    simp only [PyData.hasDict]
    exact smAll_hasDict xs (by simpa only [smD] using h)
  | .tuple xs, h => by
    simp only [PyData.hasDict]
    exact smAll_hasDict xs (by simpa only [smD] using h)
  | .dict _, h => by simp [smD] at h
theorem smAll_hasDict : ∀ xs : List PyData, smAll xs = true → PyData.hasDictAll xs = false
  | [], _ => by simp only [PyData.hasDictAll]
  | x :: xs, h => by
    have h' : smD x = true ∧ smAll xs = true := by simpa only [smAll, Bool.and_eq_true] using h
    simp only [PyData.hasDictAll, smD_hasDict x h'.1, smAll_hasDict xs h'.2, Bool.or_self]
end
mutual
theorem smD_showable : ∀ d : PyData, smD d = true → d.showable = true
  | .none, _ => by simp only [PyData.showable]
  | .bool _, _ => by simp only [PyData.showable]
  | .int i, h => by
    have h1 : i.natAbs < 100000000000 := by simpa only [smD, decide_eq_true_eq] using h
    have := smInt h1
    simp only [PyData.showable, decide_eq_true_eq]
    omega
  | .str _, _ => by simp only [PyData.showable]
  | .list xs, h => by
    simp only [PyData.showable]
    exact smAll_showable xs (by simpa only [smD] using h)
  | .tuple xs, h => by
    simp only [PyData.showable]
    exact smAll_showable xs (by simpa only [smD] using h)
  | .dict _, h => by simp [smD] at h
theorem smAll_showable : ∀ xs : List PyData, smAll xs = true → PyData.showableAll xs = true
  | [], _ => by simp only [PyData.showableAll]
  | x :: xs, h => by
    have h' : smD x = true ∧ smAll xs = true := by simpa only [smAll, Bool.and_eq_true] using h
    simp only [PyData.showableAll, smD_showable x h'.1, smAll_showable xs h'.2, Bool.and_self]
end
mutual
theorem smD_leaves : ∀ d : PyData, smD d = true → d.leavesShort 12 = true
  | .none, _ => rfl
  | .bool _, _ => rfl
  | .int i, h => by
    have h1 : i.natAbs < 100000000000 := by simpa only [smD, decide_eq_true_eq] using h
    have := int_text_length_le10 (a := i) (k := 11) (by decide) (by omega)
    simp only [PyData.leavesShort, decide_eq_true_eq, PyData.shown_int]
    have e : (Str.ofString (toString i)).length = (toString i).length := PySem.ofString_length _
    omega
  | .str x, h => by
    have h1 : OkS x := okS_iff.mp (by simpa only [smD] using h)
    simp only [PyData.leavesShort, List.all_eq_true, decide_eq_true_eq]
    intro c hc
    have := h1 c hc
    omega
  | .list xs, h => by
    simp only [PyData.leavesShort]
    exact smAll_leaves xs (by simpa only [smD] using h)
  | .tuple xs, h => by
    simp only [PyData.leavesShort]
    exact smAll_leaves xs (by simpa only [smD] using h)
  | .dict _, h => by simp [smD] at h
theorem smAll_leaves : ∀ xs : List PyData, smAll xs = true → PyData.leavesShortAll 12 xs = true
  | [], _ => by simp only [PyData.leavesShortAll]
  | x :: xs, h => by
    have h' : smD x = true ∧ smAll xs = true := by simpa only [smAll, Bool.and_eq_true] using h
    simp only [PyData.leavesShortAll, smD_leaves x h'.1, smAll_leaves xs h'.2, Bool.and_self]
end
mutual
theorem smD_weight : ∀ d : PyData, smD d = true → d.weight ≤ wD d
  | .none, _ => by simp [PyData.weight]
  | .bool _, _ => by simp [PyData.weight]
  | .int i, h => by
    have h1 : i.natAbs < 100000000000 := by simpa only [smD, decide_eq_true_eq] using h
    have := smInt h1
    simp only [PyData.weight, wD]
    split <;> omega
  | .str x, h => by simp [PyData.weight, wD]
  | .list xs, h => by
    simp only [PyData.weight, wD]
    exact smAll_weight xs (by simpa only [smD] using h)
  | .tuple xs, h => by
    simp only [PyData.weight, wD]
    exact smAll_weight xs (by simpa only [smD] using h)
  | .dict _, h => by simp [smD] at h
theorem smAll_weight : ∀ xs : List PyData, smAll xs = true → PyData.weightAll xs ≤ wAll xs
  | [], _ => by simp [PyData.weightAll, wAll]
  | x :: xs, h => by
    have h' : smD x = true ∧ smAll xs = true := by simpa only [smAll, Bool.and_eq_true] using h
    have h1 := smD_weight x h'.1
    have h2 := smAll_weight xs h'.2
    simp only [PyData.weightAll, wAll]
    omega
end
mutual
theorem smD_text : ∀ d : PyData, smD d = true → OkS d.shown
  | .none, _ => okS_lit (x := "None") (by decide +kernel)
  | .bool true, _ => okS_lit (x := "True") (by decide +kernel)
  | .bool false, _ => okS_lit (x := "False") (by decide +kernel)
  | .int i, _ => by
    intro c hc
    by_cases h : c = 45 ∨ (48 ≤ c ∧ c ≤ 57)
    · omega
    · exact absurd hc (shown_int_free' (by omega) i)
  | .str x, h => by
    rw [PyData.shown_str]
    exact OkS.repr (okS_iff.mp (by simpa only [smD] using h))
  | .list xs, h => by
    simp only [PyData.shown]
    exact OkS.listText (smAll_text xs (by simpa only [smD] using h))
  | .tuple xs, h => by
    simp only [PyData.shown]
    exact OkS.tupleText (smAll_text xs (by simpa only [smD] using h))
  | .dict _, h => by simp [smD] at h
theorem smAll_text : ∀ xs : List PyData, smAll xs = true → ∀ t ∈ PyData.shownAll xs, OkS t
  | [], _ => by simp [PyData.shownAll]
  | x :: xs, h => by
    have h' : smD x = true ∧ smAll xs = true := by simpa only [smAll, Bool.and_eq_true] using h
    intro t ht
    rcases List.mem_cons.mp (show t ∈ x.shown :: PyData.shownAll xs from ht) with rfl | ht
    · exact smD_text x h'.1
    · exact smAll_text xs h'.2 t ht
end
theorem smAll_of : ∀ {xs : List PyData}, (∀ x ∈ xs, smD x = true) → smAll xs = true
  | [], _ => rfl
  | x :: xs, h => by simp only [smAll, h x (List.mem_cons_self ..), smAll_of fun y hy => h y (List.mem_cons_of_mem _ hy), Bool.and_self]
theorem smAll_map {α : Type} {f : α → PyData} {l : List α} (h : ∀ x ∈ l, smD (f x) = true) : smAll (l.map f) = true := smAll_of fun y hy => by
  obtain ⟨x, hx, rfl⟩ := List.mem_map.mp hy
  exact h x hx
theorem wAll_le {W : Nat} : ∀ {xs : List PyData}, (∀ x ∈ xs, wD x ≤ W) → wAll xs ≤ xs.length * (W + 1)
  | [], _ => by simp [wAll]
  | x :: xs, h => by
    have h1 := h x (List.mem_cons_self ..)
    have h2 := wAll_le fun y hy => h y (List.mem_cons_of_mem _ hy)
    simp only [wAll, List.length_cons, Nat.add_mul, Nat.one_mul] at *
    omega
theorem wAll_map {α : Type} {f : α → PyData} {l : List α} {W : Nat} (h : ∀ x ∈ l, wD (f x) ≤ W) : wAll (l.map f) ≤ l.length * (W + 1) := by
  have := wAll_le (W := W) (xs := l.map f) fun y hy => by
    obtain ⟨x, hx, rfl⟩ := List.mem_map.mp hy
    exact h x hx
  simpa using this
theorem depthAll_le {W : Nat} : ∀ {xs : List PyData}, (∀ x ∈ xs, PyData.depth x ≤ W) → PyData.depthAll xs ≤ W
  | [], _ => by simp [PyData.depthAll]
  | x :: xs, h => by
    have h1 := h x (List.mem_cons_self ..)
    have h2 := depthAll_le fun y hy => h y (List.mem_cons_of_mem _ hy)
    simp only [PyData.depthAll]
    omega
theorem depthAll_map {α : Type} {f : α → PyData} {l : List α} {W : Nat} (h : ∀ x ∈ l, PyData.depth (f x) ≤ W) : PyData.depthAll (l.map f) ≤ W := depthAll_le fun y hy => by
  obtain ⟨x, hx, rfl⟩ := List.mem_map.mp hy
  exact h x hx
theorem shown_len {d : PyData} (h : smD d = true) (w : wD d ≤ 1000000) : d.shown.length ≤ sizeLine := by
  have h1 := PyData.shown_le 12 (by decide) d (smD_leaves d h)
  have h2 := smD_weight d h
  rw [sizeLine_eq]
  omega
theorem repr_sm {d : PyData} (h : smD d = true) (w : wD d ≤ 1000000) (hd : d.depth ≤ 64) : pRepr [d] = some (.val (.str d.shown)) := by
  have hs : showOk d = true := by
    unfold showOk
    rw [smD_showable d h, smD_hasDict d h]
    simp only [Bool.not_false, Bool.and_self, Bool.true_and, Bool.and_eq_true, decide_eq_true_eq]
    exact ⟨hd, decide_eq_true (shown_len h w)⟩
  simp only [pRepr, hs, if_true]
theorem repr_ok {d : PyData} (h : smD d = true) : PyData.strOk d.shown = true := okS_iff.mpr (smD_text d h)
end EV
end
section
set_option Elab.async false
set_option linter.all false
set_option maxRecDepth 100000
set_option autoImplicit false
set_option maxHeartbeats 1000000
/-! EV28: zip of a list and a tuple, of two lists, of two tuples; new dicts -/
namespace EV
open PySem PySem.Spec PyProof.Rows L2
section
variable {P : Program} {w : World} {A : Around} {E : Value → Shared → Prop} {s : Shared}
abbrev zm1 (h : Heap) (p : Addr) : Heap := h.push ⟨.type "list_iterator", none, .fields #[.ref p, .int 0 0], #[]⟩
abbrev zm2 (h : Heap) (p q : Addr) : Heap := (zm1 h p).push ⟨.type "tuple_iterator", none, .fields #[.ref q, .int 0 0], #[]⟩
abbrev zm3 (h : Heap) (p q : Addr) : Heap := (zm2 h p q).push ⟨.type "tuple", none, .seq #[.ref h.objs.size, .ref (zm1 h p).objs.size] 0, #[]⟩
abbrev zm4 (h : Heap) (p q : Addr) : Heap := (zm3 h p q).push ⟨.type "tuple", none, .seq #[.none, .none] 0, #[]⟩
abbrev zm5 (h : Heap) (p q : Addr) : Heap := (zm4 h p q).push ⟨.type "zip", none, .fields #[.none, .bool false, .bool false, .ref (zm2 h p q).objs.size, .ref (zm3 h p q).objs.size], #[]⟩
theorem zm_new (p q : Addr) (us ws : Array Value) : Meets (Builtin.«zip.__new__» ⟨[.type "zip", .ref p, .ref q], []⟩)
    (fun _ R s => s.heap.IsList p us ∧ s.heap.IsTuple q ws ∧ R (.ok (.ret (.ref (zm4 s.heap p q).objs.size))) { s with heap := zm5 s.heap p q }) :=
  .of_wp fun P w A R s hyp => by
    obtain ⟨hp, g, d, tk, os⟩ := s
    obtain ⟨ha, hb, hyp⟩ := hyp
    have hsub := sub_zip
    have ha' : Heap.IsList (Shared.heap ⟨hp, g, d, tk, os⟩) p us := ha
    have hb' : Heap.IsTuple (Shared.heap ⟨zm1 hp p, g, d, tk, os⟩) q ws := Heap.IsTuple.push hb _
    wp_walk using wpAny_pyIter_list ha', wpAny_pyIter_tuple hb'
    exact ⟨_, rfl, hyp⟩
theorem zm_call {p q : Addr} {us ws : Array Value} {Q : Value → Shared → Prop} (ha : s.heap.IsList p us) (hb : s.heap.IsTuple q ws)
    (hyp : ∀ h', IsZip h' (s.heap.objs.size + 4) (s.heap.objs.size + 2) (s.heap.objs.size + 3) .none ∧ IsPair h' (s.heap.objs.size + 2) (.ref s.heap.objs.size) (.ref (s.heap.objs.size + 1)) ∧
      IsPair h' (s.heap.objs.size + 3) .none .none ∧ h'.IsListIter s.heap.objs.size p 0 ∧ h'.IsTupleIter (s.heap.objs.size + 1) q 0 ∧ (∀ c o, s.heap.get? c = some o → h'.get? c = some o) → Q (.ref (s.heap.objs.size + 4)) { s with heap := h' }) :
    wpAny (model P w) A (call (.type "zip") [.ref p, .ref q]) Q E s := by
  refine callType_new F.called_zip (by decide) (F.typeCall_zip_2 _ _) (F.newCall_zip_2 _ _) (fun o => F.args_object_init_3 o _ _) F.entry_zip_new (zm_new p q us ws) ⟨ha, hb, ?_⟩
  have n1 : (zm1 s.heap p).objs.size = s.heap.objs.size + 1 := Heap.size_push ..
  have n2 : (zm2 s.heap p q).objs.size = s.heap.objs.size + 2 := by rw [Heap.size_push, n1]
  have n3 : (zm3 s.heap p q).objs.size = s.heap.objs.size + 3 := by rw [Heap.size_push, n2]
  have n4 : (zm4 s.heap p q).objs.size = s.heap.objs.size + 4 := by rw [Heap.size_push, n3]
  have k5 : ∀ c o, (zm4 s.heap p q).get? c = some o → (zm5 s.heap p q).get? c = some o := fun c o => Heap.get?_push_of_some _
  have k4 : ∀ c o, (zm3 s.heap p q).get? c = some o → (zm5 s.heap p q).get? c = some o := fun c o x => k5 c o (Heap.get?_push_of_some _ x)
  have k3 : ∀ c o, (zm2 s.heap p q).get? c = some o → (zm5 s.heap p q).get? c = some o := fun c o x => k4 c o (Heap.get?_push_of_some _ x)
  have k2 : ∀ c o, (zm1 s.heap p).get? c = some o → (zm5 s.heap p q).get? c = some o := fun c o x => k3 c o (Heap.get?_push_of_some _ x)
  have g5 : (zm5 s.heap p q).get? (zm4 s.heap p q).objs.size = some _ := Heap.get?_push_size _ rfl
  have g4 : (zm5 s.heap p q).get? (zm3 s.heap p q).objs.size = some ⟨.type "tuple", none, .seq #[.none, .none] 0, #[]⟩ := k5 _ _ (Heap.get?_push_size _ rfl)
  have g3 : (zm5 s.heap p q).get? (zm2 s.heap p q).objs.size = some ⟨.type "tuple", none, .seq #[.ref s.heap.objs.size, .ref (zm1 s.heap p).objs.size] 0, #[]⟩ := k4 _ _ (Heap.get?_push_size _ rfl)
  have g2 : (zm5 s.heap p q).get? (zm1 s.heap p).objs.size = some ⟨.type "tuple_iterator", none, .fields #[.ref q, .int 0 0], #[]⟩ := k3 _ _ (Heap.get?_push_size _ rfl)
  have g1 : (zm5 s.heap p q).get? s.heap.objs.size = some ⟨.type "list_iterator", none, .fields #[.ref p, .int 0 0], #[]⟩ := k2 _ _ (Heap.get?_push_size _ rfl)
  rw [n2, n3, n4] at g5
  rw [n3] at g4
  rw [n1, n2] at g3
  rw [n1] at g2
  show _ ∧ _
  rw [n4]
  exact ⟨⟨_, g5, rfl⟩, hyp _ ⟨g5, g3, g4, ⟨_, g1, rfl, rfl⟩, ⟨_, g2, rfl, rfl⟩, fun c o x => k2 c o (Heap.get?_push_of_some _ x)⟩⟩
theorem drawsT (hh : A.handled = none) (it l : Addr) (hne : l ≠ it) (items : Array Value) : Draws P w A it [it, l] items.size (fun i v => items[i]? = some v) (fun i h => h.IsTupleIter it l i ∧ h.IsTuple l items) where
  live := fun i h st => by
    obtain ⟨⟨o, ho, _⟩, _⟩ := st
    exact ⟨o, ho⟩
  frame := fun i h h' st hk => ⟨st.1.at fun o e => hk it (by simp) o e, st.2.at fun o e => hk l (by simp) o e⟩
  item := fun i s Q E hi st hQ => RZ.nextOf_tuple_item st.1 st.2 (x := items[i]) (by simp [hi]) fun h' b1 b2 => hQ _ h' s.toks (by simp [hi]) ⟨b1, st.2.extBut b2.extBut hne⟩ b2
  done := fun s Q E st hE => RZ.nextOf_tuple_end hh st.1 st.2 (by simp) hE
end
/-- the list at a, the tuple at b, the items in new pairs -/
def ItzM (K : PySem.W.Frag) (a b : Addr) : It :=
  ⟨fun i H => ∃ (xs ys : List V) (x y : V), SqL K H a xs ∧ SqT K H b ys ∧ xs[i]? = some x ∧ ys[i]? = some y,
    fun i H v H' => ∃ t x y, v = .ref t ∧ H t = none ∧ H' = upd H t (.tup [x, y]) ∧ (∀ xs, SqL K H a xs → xs[i]? = some x) ∧ ∀ ys, SqT K H b ys → ys[i]? = some y,
    fun i H => ∃ xs ys : List V, SqL K H a xs ∧ SqT K H b ys ∧ i ≤ xs.length ∧ i ≤ ys.length ∧ (i = xs.length ∨ i = ys.length)⟩
theorem zm_turn {P : Program} {w : World} {K : PySem.W.Frag} {elts : List Expr} {kk : Nat} {tpos : Pos} {a b z t u i1 i2 : Addr} (D : ZipApart z t u i1 i2 a b) :
    Turn P w K (.Tuple elts kk tpos) (ItzM K a b) [z, t, u, i1, i2] z (fun i h => IsZip h z t u .none ∧ IsPair h t (.ref i1) (.ref i2) ∧ (∃ x y, IsPair h u x y) ∧ h.IsListIter i1 a i ∧ h.IsTupleIter i2 b i) where
  mem := by simp
  obj := fun i h st c hc => by
    obtain ⟨p1, p2, ⟨x, y, p3⟩, ⟨o1, e1, _, d1⟩, ⟨o2, e2, _, d2⟩⟩ := st
    have hc' : c = z ∨ c = t ∨ c = u ∨ c = i1 ∨ c = i2 := by simpa using hc
    rcases hc' with q | q | q | q | q <;> subst q
    · exact ⟨_, p1, fun v q => nomatch q⟩
    · exact ⟨_, p2, fun v q => nomatch q⟩
    · exact ⟨_, p3, fun v q => nomatch q⟩
    · exact ⟨o1, e1, fun v q => by rw [d1] at q; cases q⟩
    · exact ⟨o2, e2, fun v q => by rw [d2] at q; cases q⟩
  keep := fun i h h' st k => by
    obtain ⟨p1, p2, ⟨x, y, p3⟩, p4, p5⟩ := st
    exact ⟨k z (by simp) _ p1, k t (by simp) _ p2, ⟨x, y, k u (by simp) _ p3⟩, p4.at fun o e => k i1 (by simp) o e, p5.at fun o e => k i2 (by simp) o e⟩
  item := by
    intro X e1 e2 e3 hc i pins s σ H E I hf st hg
    subst e1 e2 e3
    obtain ⟨p1, p2, ⟨x0, y0, p3⟩, p4, p5⟩ := st
    obtain ⟨xs, ys, x, y, qx, qy, hx, hy⟩ := hg
    obtain ⟨vs, rv, l1, _⟩ := I.list qx
    obtain ⟨ws, rw', l2, _⟩ := I.tuple qy
    obtain ⟨v, hv, rv1⟩ := rv.get hx
    obtain ⟨v2, hv2, rv2⟩ := rw'.get hy
    have hh : X.A.in1.handled = none := I.ok.hd hc
    have hlen1 : i < vs.toArray.size := by have := (List.getElem?_eq_some_iff.mp hv).1; simpa using this
    have hlen2 : i < ws.toArray.size := by have := (List.getElem?_eq_some_iff.mp hv2).1; simpa using this
    have hzl : z < s.heap.objs.size := Heap.lt_size p1
    have S : ZipSep2 z t u i1 i2 [i1, a] [i2, b] := ⟨D.TIz, D.TOz, D.TITO, D.TIi1, by simp, by simp [D.i1z.symm, D.l1z.symm], by simp [D.TOi1, D.l1TO.symm], D.TIi2, by simp, by simp [D.i2z.symm, D.l2z.symm], by simp [D.TOi2, D.l2TO.symm], by simp [D.i12, D.l2i1.symm], by simp [D.i12.symm, D.l1i2.symm]⟩
    refine wpAny_with_toks (n := s.toks) (Nat.le_refl _) (wpAny_pyNext_zipD2_item S (Draws.list hh i1 a D.l1i1 vs.toArray) (drawsT hh i2 b D.l2i2 ws.toArray) p1 p2 p3 ⟨p4, l1.isList⟩ ⟨p5, l2⟩ hlen1 hlen2 fun x1 x2 h' tk y1 y2 b1 b2 d1 d2 b5 b6 hk htk => ?_)
    have ex1 : x1 = v := by simp [hv] at y1; exact y1.symm
    have ex2 : x2 = v2 := by simp [hv2] at y2; exact y2.symm
    subst ex1 ex2
    refine ⟨_, rfl, wpAny_letOwnedTupleGo_zip (s := { s with heap := h', toks := tk }) b1 fun h2 c1 sb => ?_⟩
    have n5 : h2.get? s.heap.objs.size = some ⟨.type "tuple", none, .seq #[x1, x2] 0, #[]⟩ := (sb.2 _ (Nat.ne_of_gt hzl)).trans b5
    have new : ObjOk X.prog X.w (upd H s.heap.objs.size (.tup [x, y])) h2 s.heap.objs.size (.tup [x, y]) :=
      ⟨by show 2 ≤ sizeLine; decide, [x1, x2], .cons rv1 (.cons rv2 .nil), ⟨_, n5, rfl, _, rfl⟩⟩
    have I1 : Inv X pins σ (upd H s.heap.objs.size (.tup [x, y])) { s with heap := h2, toks := tk } :=
      I.turnedNew (t' := tk) (ch := [z, t, u, i1, i2]) (fun c o hb q => (sb.2 c (fun e => hb (by simp [e]))).trans (hk c o (fun e => hb (by simp [e])) (fun e => hb (by simp [e])) (fun e => hb (by simp [e])) (fun e => hb (by simp [e])) q)) hf (Nat.le_refl _) new
    refine ⟨.ref s.heap.objs.size, _, I1, rfl, ⟨_, x, y, rfl, I.hok.fresh (Nat.le_refl _), rfl, fun l hl => by rw [I.list_inj hl qx]; exact hx, fun l hl => by rw [I.tuple_inj hl qy]; exact hy⟩, ⟨c1, ?_, ⟨x1, x2, ?_⟩, ?_, ?_⟩, fun c hcm => ?_⟩
    · exact (sb.2 _ D.TIz).trans (hk _ _ D.TIz D.TITO D.TIi1 D.TIi2 p2)
    · exact (sb.2 _ D.TOz).trans b2
    · exact d1.1.at fun o e => (sb.2 _ D.i1z).trans e
    · exact d2.1.at fun o e => (sb.2 _ D.i2z).trans e
    · have hlt : c < s.heap.objs.size := by
        have hc' : c = z ∨ c = t ∨ c = u ∨ c = i1 ∨ c = i2 := by simpa using hcm
        rcases hc' with q | q | q | q | q <;> subst q
        · exact hzl
        · exact Heap.lt_size p2
        · exact Heap.lt_size p3
        · obtain ⟨_, e, _⟩ := p4; exact Heap.lt_size e
        · obtain ⟨_, e, _⟩ := p5; exact Heap.lt_size e
      rw [upd_ne (Nat.ne_of_lt hlt)]
      exact (hf c hcm).1
  done := by
    intro X e1 e2 e3 hc i pins s σ H E I hf st hg
    subst e1 e2 e3
    obtain ⟨p1, p2, ⟨x0, y0, p3⟩, p4, p5⟩ := st
    obtain ⟨xs, ys, qx, qy, hi1, hi2, hend⟩ := hg
    obtain ⟨vs, rv, l1, _⟩ := I.list qx
    obtain ⟨ws, rw', l2, _⟩ := I.tuple qy
    have n1 := rv.length
    have n2 := rw'.length
    have hh : X.A.in1.handled = none := I.ok.hd hc
    have S : ZipSep2 z t u i1 i2 [i1, a] [i2, b] := ⟨D.TIz, D.TOz, D.TITO, D.TIi1, by simp, by simp [D.i1z.symm, D.l1z.symm], by simp [D.TOi1, D.l1TO.symm], D.TIi2, by simp, by simp [D.i2z.symm, D.l2z.symm], by simp [D.TOi2, D.l2TO.symm], by simp [D.i12, D.l2i1.symm], by simp [D.i12.symm, D.l1i2.symm]⟩
    refine wpAny_with_toks (n := s.toks) (Nat.le_refl _) (wpAny_pyNext_zipD2_end S (Draws.list hh i1 a D.l1i1 vs.toArray) (drawsT hh i2 b D.l2i2 ws.toArray) p1 p2 p3 ⟨p4, l1.isList⟩ ⟨p5, l2⟩ (by simp; omega) (by simp; omega) (by simp; omega) fun h' tk hk htk => ⟨rfl, ?_⟩)
    exact I.turnedL (t' := tk) (ch := [z, t, u, i1, i2]) (fun c o hb q => hk c o (fun e => hb (by simp [e])) (fun e => hb (by simp [e])) (fun e => hb (by simp [e])) (fun e => hb (by simp [e])) q) hf
  self := fun A i s Q E st hyp => wpAny_pyIter_zip st.1 hyp
def iZipM (K : PySem.W.Frag) (ta : TA) : TI := fun σ H R => ta σ H fun vs H1 => ∃ a b xs ys, vs = [.ref a, .ref b] ∧
  ((SqL K H1 a xs ∧ SqL K H1 b ys ∧ R (Itz K a b) H1) ∨ (SqT K H1 a xs ∧ SqT K H1 b ys ∧ R (RZ.ItzT K a b) H1) ∨ (SqL K H1 a xs ∧ SqT K H1 b ys ∧ R (ItzM K a b) H1))
theorem pi_zipM {X : Cx} {e e2 : Expr} {ta : TA} {p pos tpos : Pos} {elts : List Expr} {kk : Nat} (hg : Gl X "zip") (hm : X.mg "zip" = none) (ha : PA X [e, e2] ta)
    (hs : starEach [e, e2] X.env = (false, eval e X.env) :: starEach [e2] X.env) (hpl : (backTo pos (starEach [e2] X.env)).any (·.1) = false) :
    PI X (.Tuple elts kk tpos) (.Call (.Name "zip" p) [e, e2] [] pos) (iZipM X.K ta) := by
  refine ⟨fun pins s σ H R I hyp => ?_⟩
  refine Call_ (ld_blt I hg hm PyProof.Rows.boot_zip (PyProof.Rows.callWith_type1 (thn (ha.run pos pins s σ H _ I hyp) fun us s1 ⟨vs, H1, I1, r1, q1⟩ => ?_) hs hpl))
  obtain ⟨a, b, xs, ys, ex, q1⟩ := q1
  subst ex
  obtain ⟨u1, u2, eu, r, r'⟩ : ∃ u1 u2, us = [u1, u2] ∧ RelV (.ref a) u1 ∧ RelV (.ref b) u2 := by
    cases r1 with
    | cons r rr =>
      cases rr with
      | cons r' rr =>
        cases rr
        exact ⟨_, _, rfl, r, r'⟩
  subst eu
  cases r
  cases r'
  have fresh : ∀ c, c ∈ [s1.heap.objs.size + 4, s1.heap.objs.size + 2, s1.heap.objs.size + 3, s1.heap.objs.size, s1.heap.objs.size + 1] → FpOk X pins H1 c := fun c hc => by
    have hle : s1.heap.objs.size ≤ c := by
      simp only [List.mem_cons, List.not_mem_nil, or_false] at hc
      omega
    exact I1.fpOk hle (I1.hok.fresh hle)
  rcases q1 with ⟨qx, qy, q⟩ | ⟨qx, qy, q⟩ | ⟨qx, qy, q⟩
  · obtain ⟨l1, _, p1, _⟩ := I1.list qx
    obtain ⟨l2, _, p2, _⟩ := I1.list qy
    refine call_zip_2 p1.isList p2.isList fun h' c1 c2 c3 c4 c5 c6 hk => wpAny_pyIter_zip c1 ?_
    exact ⟨s1.heap.objs.size + 4, [s1.heap.objs.size + 4, s1.heap.objs.size + 2, s1.heap.objs.size + 3, s1.heap.objs.size, s1.heap.objs.size + 1], _, _, H1, rfl, I1.kept (t' := s1.toks) hk, turn_zip (PySem.W.ktu_apart s1.heap.objs.size a b p1.lt p2.lt), ⟨c1, c2, ⟨_, _, c3⟩, c4, c5⟩, fresh, q⟩
  · obtain ⟨l1, _, p1, _⟩ := I1.tuple qx
    obtain ⟨l2, _, p2, _⟩ := I1.tuple qy
    obtain ⟨o1, g1, _⟩ := id p1
    obtain ⟨o2, g2, _⟩ := id p2
    refine RZ.call_zipT (show s1.heap.IsTuple a l1.toArray from p1) (show s1.heap.IsTuple b l2.toArray from p2) fun h' c1 c2 c3 c4 c5 c6 hk => wpAny_pyIter_zip c1 ?_
    exact ⟨s1.heap.objs.size + 4, [s1.heap.objs.size + 4, s1.heap.objs.size + 2, s1.heap.objs.size + 3, s1.heap.objs.size, s1.heap.objs.size + 1], _, _, H1, rfl, I1.kept (t' := s1.toks) hk, RZ.turn_zipT (PySem.W.ktu_apart s1.heap.objs.size a b (Heap.lt_size g1) (Heap.lt_size g2)), ⟨c1, c2, ⟨_, _, c3⟩, c4, c5⟩, fresh, q⟩
  · obtain ⟨l1, _, p1, _⟩ := I1.list qx
    obtain ⟨l2, _, p2, _⟩ := I1.tuple qy
    obtain ⟨o2, g2, _⟩ := id p2
    refine zm_call p1.isList (show s1.heap.IsTuple b l2.toArray from p2) fun h' ⟨c1, c2, c3, c4, c5, hk⟩ => wpAny_pyIter_zip c1 ?_
    exact ⟨s1.heap.objs.size + 4, [s1.heap.objs.size + 4, s1.heap.objs.size + 2, s1.heap.objs.size + 3, s1.heap.objs.size, s1.heap.objs.size + 1], _, _, H1, rfl, I1.kept (t' := s1.toks) hk, zm_turn (PySem.W.ktu_apart s1.heap.objs.size a b p1.lt (Heap.lt_size g2)), ⟨c1, c2, ⟨_, _, c3⟩, c4, c5⟩, fresh, q⟩
theorem zipD_get : ∀ {as bs : List D} {i : Nat} {d : D}, (zipD as bs)[i]? = some d → ∃ x y, as[i]? = some x ∧ bs[i]? = some y ∧ d = .tuple [x, y]
  | a :: as, b :: bs, 0, d, h => ⟨a, b, rfl, rfl, by simpa [zipD] using h.symm⟩
  | a :: as, b :: bs, i + 1, d, h => by
    obtain ⟨x, y, h1, h2, h3⟩ := zipD_get (as := as) (bs := bs) (i := i) (d := d) (by simpa [zipD] using h)
    exact ⟨x, y, by simpa using h1, by simpa using h2, h3⟩
  | [], _, i, d, h => by simp [zipD] at h
  | _ :: _, [], i, d, h => by simp [zipD] at h
theorem zipD_len : ∀ as bs : List D, (zipD as bs).length ≤ as.length ∧ (zipD as bs).length ≤ bs.length ∧ ((zipD as bs).length = as.length ∨ (zipD as bs).length = bs.length)
  | [], _ => by simp [zipD]
  | _ :: _, [] => by simp [zipD]
  | a :: as, b :: bs => by
    have := zipD_len as bs
    simp only [zipD, List.length_cons]
    omega
section
variable {K : PySem.W.Frag} {Φ H : Hp}
theorem pair_new {Φ' H' : Hp} {t : Addr} {x y : V} {d e : D} (l : Le Φ' H') (n : H' t = none) (h1 : Rp K Φ' x d) (h2 : Rp K Φ' y e) :
    ∃ Ψ, Le Φ' Ψ ∧ Le Ψ (upd H' t (.tup [x, y])) ∧ Le H' (upd H' t (.tup [x, y])) ∧ (∀ a, Ψ a ≠ none → Φ' a ≠ none ∨ Nw H' a) ∧ Rp K Ψ (.ref t) (.tuple [d, e]) :=
  ⟨upd Φ' t (.tup [x, y]), upd_le (l.none n), upd_le2 l, upd_le n, fun b z => (upd_some z).elim (fun e => .inr (.inl (e ▸ n))) .inl, .tup upd_same (.cons (h1.mono (upd_le (l.none n))) (.cons (h2.mono (upd_le (l.none n))) .nil)) (show 2 ≤ sizeLine by rw [sizeLine_eq]; decide)⟩
theorem walkZ {a b : Addr} {xs ys : List V} {as bs : List D} {J : It} (SA SB : Hp → List V → Prop) (ra : RpA K Φ xs as) (rb : RpA K Φ ys bs) (z : as.length ≤ sizeLine)
    (hA : ∀ Φ' H', Le Φ Φ' → Le Φ' H' → SA H' xs ∧ SB H' ys)
    (hgo : ∀ i H (xs ys : List V) x y, SA H xs → SB H ys → xs[i]? = some x → ys[i]? = some y → J.go i H)
    (hyl : ∀ i H v H', J.yld i H v H' → ∃ t x y, v = .ref t ∧ H t = none ∧ H' = upd H t (.tup [x, y]) ∧ (∀ xs, SA H xs → xs[i]? = some x) ∧ ∀ ys, SB H ys → ys[i]? = some y)
    (hst : ∀ i H (xs ys : List V), SA H xs → SB H ys → i ≤ xs.length → i ≤ ys.length → (i = xs.length ∨ i = ys.length) → J.stop i H) : WalkD K J Φ H (zipD as bs) :=
  ⟨Nat.le_trans (zipD_len as bs).1 z, fun Φ' H' l l' => by
    obtain ⟨q1, q2⟩ := hA Φ' H' l l'
    have n1 := ra.length
    have n2 := rb.length
    have n3 := zipD_len as bs
    refine ⟨hst _ H' xs ys q1 q2 (by omega) (by omega) (by omega), fun i d e => ?_⟩
    obtain ⟨x, y, g1, g2, rfl⟩ := zipD_get e
    obtain ⟨v, k1, k2⟩ := ra.get g1
    obtain ⟨u, m1, m2⟩ := rb.get g2
    refine ⟨hgo i H' xs ys v u q1 q2 k1 m1, fun x0 H'' yl => ?_⟩
    obtain ⟨t, x1, y1, rfl, hn, rfl, w1, w2⟩ := hyl i H' x0 H'' yl
    have e1 := w1 xs q1
    have e2 := w2 ys q2
    rw [k1] at e1; cases e1
    rw [m1] at e2; cases e2
    exact pair_new l' hn (k2.mono l) (m2.mono l)⟩
end
def semZipM (fs : List Arg) : SemI := fun s => (semArgs fs s).bind fun rs s1 => match rs with
  | [.val (.list as), .val (.list bs)] => .ok (zipD as bs) s1
  | [.val (.tuple as), .val (.tuple bs)] => .ok (zipD as bs) s1
  | [.val (.list as), .val (.tuple bs)] => .ok (zipD as bs) s1
  | _ => .bad
section
variable {T : Tx} {N : List Str} {sc : Scope} {cold top : Bool} {k : Nat} {X : Cx} {W : WX}
theorem di_zipM {elts : List Expr} {kk : Nat} {tpos : Pos} {a b : Expr} {p pos : Pos} {fs : List Arg} (ha : DA T N sc cold top k [a, b] fs) (hg : sc.names.lookup ("zip" : Str) = some .globalImplicit) (hm : T.mg "zip" = none) (hs : noStar a = true) (hs2 : noStar b = true) :
    DI T N sc cold top k (.Tuple elts kk tpos) (.Call (.Name "zip" p) [a, b] [] pos) (semZipM fs) := fun X W F =>
  PIimp (pi_zipM (gl_of F hg) (by rw [F.em]; exact hm) (ha X W F) (starEach_one hs) (by rw [starEach1 hs2]; rfl)) fun σ H Q ⟨Φ, env, g0, o⟩ => ⟨Φ, env, g0, (OutL.bindI o).mono fun vs H1 ⟨rs, env1, Φ1, g1, r1, p1, o1⟩ => by
    rw [F.eK]
    match rs, r1, o1 with
    | [.val (.list as), .val (.list bs)], r1, o1 =>
      match vs, r1.valsOf (ds := [.list as, .list bs]) rfl with
      | _, .cons r (.cons r' .nil) =>
        have r : Rp T.K Φ1 _ (.list as) := r
        have r' : Rp T.K Φ1 _ (.list bs) := r'
        cases r with
        | lst sq ra z =>
          cases r' with
          | lst sq2 rb z2 =>
            exact ⟨_, _, _, _, rfl, .inl ⟨(g1.le.ls sq).sq, (g1.le.ls sq2).sq, o1 _ Φ1 H1 g1 (walkZ (a := 0) (b := 0) (fun H xs => SqL T.K H _ xs) (fun H ys => SqL T.K H _ ys) ra rb z (fun Φ' H' l l' => ⟨l'.sqL (l.sqL sq.sq), l'.sqL (l.sqL sq2.sq)⟩) (fun i H xs ys x y q1 q2 e1 e2 => ⟨xs, ys, x, y, q1, q2, e1, e2⟩) (fun i H v H' y => y) (fun i H xs ys q1 q2 h1 h2 h3 => ⟨xs, ys, q1, q2, h3.elim (fun e => .inl (by omega)) (fun e => .inr (by omega))⟩)) p1⟩⟩
    | [.val (.tuple as), .val (.tuple bs)], r1, o1 =>
      match vs, r1.valsOf (ds := [.tuple as, .tuple bs]) rfl with
      | _, .cons r (.cons r' .nil) =>
        have r : Rp T.K Φ1 _ (.tuple as) := r
        have r' : Rp T.K Φ1 _ (.tuple bs) := r'
        cases r with
        | tup sq ra z =>
          cases r' with
          | tup sq2 rb z2 =>
            exact ⟨_, _, _, _, rfl, .inr (.inl ⟨.inl (.inl (g1.le _ _ sq)), .inl (.inl (g1.le _ _ sq2)), o1 _ Φ1 H1 g1 (walkZ (a := 0) (b := 0) (fun H xs => SqT T.K H _ xs) (fun H ys => SqT T.K H _ ys) ra rb z (fun Φ' H' l l' => ⟨.inl (.inl (l' _ _ (l _ _ sq))), .inl (.inl (l' _ _ (l _ _ sq2)))⟩) (fun i H xs ys x y q1 q2 e1 e2 => ⟨xs, ys, x, y, q1, q2, e1, e2⟩) (fun i H v H' y => y) (fun i H xs ys q1 q2 h1 h2 h3 => ⟨xs, ys, q1, q2, h3.elim (fun e => .inl (by omega)) (fun e => .inr (by omega))⟩)) p1⟩)⟩
    | [.val (.list as), .val (.tuple bs)], r1, o1 =>
      match vs, r1.valsOf (ds := [.list as, .tuple bs]) rfl with
      | _, .cons r (.cons r' .nil) =>
        have r : Rp T.K Φ1 _ (.list as) := r
        have r' : Rp T.K Φ1 _ (.tuple bs) := r'
        cases r with
        | lst sq ra z =>
          cases r' with
          | tup sq2 rb z2 =>
            exact ⟨_, _, _, _, rfl, .inr (.inr ⟨(g1.le.ls sq).sq, .inl (.inl (g1.le _ _ sq2)), o1 _ Φ1 H1 g1 (walkZ (a := 0) (b := 0) (fun H xs => SqL T.K H _ xs) (fun H ys => SqT T.K H _ ys) ra rb z (fun Φ' H' l l' => ⟨l'.sqL (l.sqL sq.sq), .inl (.inl (l' _ _ (l _ _ sq2)))⟩) (fun i H xs ys x y q1 q2 e1 e2 => ⟨xs, ys, x, y, q1, q2, e1, e2⟩) (fun i H v H' y => y) (fun i H xs ys q1 q2 h1 h2 h3 => ⟨xs, ys, q1, q2, h1, h2, h3⟩)) p1⟩)⟩⟩
/-- {} -/
def semDic0 : Sem := fun s => .ok (.own (.dic [])) s
theorem de_dic0 {pos : Pos} : DE T N sc cold top k (.Dict [] [] pos) semDic0 := fun X W F =>
  PEimp pe_dnewK fun σ H Q ⟨Φ, env, g0, o⟩ => fun p hp => (NewQ.of o g0 (Pres.refl _ _ _)).owned g0.le hp (.inl ⟨[], upd_same, .nil⟩)
end
/-- list(range(..)) -/
def semListRg (f : Sem) : Sem := fun s => (f s).bind fun r s1 => match intOf r s1 with
  | some j => if rangeOk 0 j = true then .ok (.own (.lst (rangeD 0 j.toNat))) s1 else .bad
  | none => .bad
theorem rpa_ints {K : PySem.W.Frag} {Φ : Hp} (g : Nat → Int) : ∀ l : List Nat, RpA K Φ (l.map fun i => V.int (g i)) (l.map fun i => PyData.int (g i))
  | [] => .nil
  | i :: l => .cons (.int _) (rpa_ints g l)
section
variable {T : Tx} {N : List Str} {sc : Scope} {top : Bool} {k : Nat}
theorem de_listRg {a : Expr} {q1 q2 q3 q4 : Pos} {f : Sem} (ha : DE T N sc true top k a f) (lf : Lasts f) (na : noStar a = true) (hg : sc.names.lookup ("list" : Str) = some .globalImplicit) (hm : T.mg "list" = none) (hg2 : sc.names.lookup ("range" : Str) = some .globalImplicit) (hm2 : T.mg "range" = none) :
    DE T N sc true top k (.Call (.Name "list" q1) [.Call (.Name "range" q2) [a] [] q3] [] q4) (semListRg f) := fun X W F =>
  PEimp (pe_listRg (F.cal rfl).1 (gl_of F hg) (by rw [F.em]; exact hm) (prg_1 (gl_of F hg2) (by rw [F.em]; exact hm2) (ha X W F) (starEach_one na)) (starEach_one rfl)) fun σ H Q ⟨Φ, env, g0, o⟩ => ⟨Φ, env, g0, (Out.bind o).mono fun v H1 ⟨r, env1, e1, Φ1, g1, r1, p1, o1⟩ => by
    have p2 := p1.plain fun b => RO.not (lf _ _ _ e1) b
    cases e2 : intOf r env1 with
    | none => rw [e2] at o1; exact o1.elim
    | some j =>
      rw [e2] at o1
      simp only at o1
      split at o1
      · rename_i hr
        obtain ⟨h1, h2, h3, h4, h5⟩ := rangeOk_of hr
        refine ⟨j, r1.intOf g1 e2, ⟨h1, h2, h3, h4, by rw [sizeLine_eq] at h5; simpa using h5⟩, fun p hp => (NewQ.of o1 g1 p2).lst g1.le hp ?_ (by simpa [rangeD] using h5)⟩
        have := rpa_ints (K := T.K) (Φ := Φ1) (fun i => 0 + (i : Int)) (List.range j.toNat)
        simpa [rgV, rangeD] using this
      · exact o1.elim⟩
end
end EV
end
section
set_option Elab.async false
set_option linter.all false
set_option maxRecDepth 100000
set_option autoImplicit false
/-! EV29: index of a tuple -/
namespace EV
open PySem PySem.Spec PyProof.Rows L2
theorem pa_tuple : PlainAttrs "tuple" := PySem.F.plainAttrs_tuple
theorem slot_tuple_index : Slot "tuple" "index" "tuple.index" := PySem.F.slot_tuple_index
theorem ty_tuple_index : typeOf (.builtin "tuple.index") = pure (.type "method_descriptor") := PySem.F.type_tuple_index
theorem rpa_intsOf {K : PySem.W.Frag} {Φ : Hp} : ∀ {vs : List V} {ns : List Int}, RpA K Φ vs (ns.map .int) → vs = ns.map V.int
  | _, [], h => by cases h; rfl
  | _, n :: ns, h => by
    cases h with
    | cons a b => cases a; rw [rpa_intsOf b]; rfl
def pIndexT (d : D) (xs : List D) : Option R := match d, xs with
  | .tuple ds, [.int k] => (intsD ds).bind fun ns => if k ∈ ns then some (.val (.int (ns.idxOf k : Nat))) else none
  | _, _ => none
section
variable {T : Tx} {N : List Str} {sc : Scope} {cold top : Bool} {k : Nat}
theorem m_indexT : ∀ X W, Fx T N sc cold top k X W → MtR X "tuple.index" (rPm T.K pIndexT) := fun X W F pins s σ H x xs v us Q I rx rs ⟨Φ, d, ds, r, l, hd, hs, hp, q⟩ => by
  unfold pIndexT at hp
  split at hp
  · rename_i ds' j
    cases e : intsD ds' with
    | none => rw [e] at hp; cases hp
    | some ns =>
      rw [e] at hp
      simp only [Option.bind] at hp
      split at hp
      · rename_i hk
        cases hp
        obtain ⟨y, rfl, hy⟩ := hs.one
        cases hy.int
        obtain ⟨a, vs, rfl, sq, ra, z⟩ := hd.tuple l
        rw [intsD_eq e] at ra
        rw [rpa_intsOf ra] at sq
        obtain ⟨its, rv, p, _⟩ := I.tuple (a := a) (by rw [F.eK]; exact sq)
        cases rx
        obtain ⟨u, rfl, t, rfl⟩ := vals1 rs
        exact PySem.SeqAt.tuple_index_ints (show s.heap.IsTuple a its.toArray from p) (RZ.intsAre_vals rv) hk ⟨.int (ns.idxOf j : Nat), H, I.tok _, ⟨_, rfl⟩, q.val l (.int _)⟩
      · cases hp
  · cases hp
end
end EV
end
section
set_option Elab.async false
set_option linter.all false
set_option maxRecDepth 100000
set_option autoImplicit false
/-! EV30: enumerate; stores of a pair to captured names -/
namespace EV
open PySem PySem.Spec PyProof.Rows L2
def enumD : Nat → List D → List D
  | _, [] => []
  | i, a :: as => .tuple [.int i, a] :: enumD (i + 1) as
theorem enumD_len : ∀ (k : Nat) (as : List D), (enumD k as).length = as.length
  | _, [] => rfl
  | k, a :: as => by simp [enumD, enumD_len (k + 1) as]
theorem enumD_get : ∀ {k : Nat} {as : List D} {i : Nat} {d : D}, (enumD k as)[i]? = some d → ∃ x, as[i]? = some x ∧ d = .tuple [.int ((k + i : Nat) : Int), x]
  | k, [], i, d, h => by simp [enumD] at h
  | k, a :: as, 0, d, h => ⟨a, rfl, by simpa [enumD] using h.symm⟩
  | k, a :: as, i + 1, d, h => by
    obtain ⟨x, h1, h2⟩ := enumD_get (k := k + 1) (as := as) (i := i) (d := d) (by simpa [enumD] using h)
    exact ⟨x, by simpa using h1, by rw [h2, show k + 1 + i = k + (i + 1) by omega]⟩
theorem walkE {K : PySem.W.Frag} {Φ H : Hp} {a : Addr} {xs : List V} {as : List D} (sq : SqL K Φ a xs) (ra : RpA K Φ xs as) (z : as.length ≤ sizeLine) : WalkD K (Ite K a) Φ H (enumD 0 as) :=
  ⟨by rw [enumD_len]; exact z, fun Φ' H' l l' => by
    have q := l'.sqL (l.sqL sq)
    refine ⟨⟨xs, q, by rw [enumD_len, ra.length]; exact Nat.le_refl _⟩, fun i d e => ?_⟩
    obtain ⟨x, g1, rfl⟩ := enumD_get e
    obtain ⟨v, k1, k2⟩ := ra.get g1
    refine ⟨⟨xs, v, q, k1⟩, fun x0 H'' yl => ?_⟩
    obtain ⟨t, x1, rfl, hn, rfl, w1⟩ := yl
    have e1 := w1 xs q
    rw [k1] at e1; cases e1
    rw [Nat.zero_add]
    exact pair_new l' hn (.int _) (k2.mono l)⟩
def semEnum (fs : List Arg) : SemI := fun s => (semArgs fs s).bind fun rs s1 => match rs with
  | [.val (.list as)] => .ok (enumD 0 as) s1
  | _ => .bad
section
variable {T : Tx} {N : List Str} {sc : Scope} {cold top : Bool} {k : Nat} {nr : List Nat}
theorem di_enum {elts : List Expr} {kk : Nat} {tpos : Pos} {a : Expr} {p pos : Pos} {fs : List Arg} (ha : DA T N sc cold top k [a] fs) (hg : sc.names.lookup ("enumerate" : Str) = some .globalImplicit) (hm : T.mg "enumerate" = none) (hs : noStar a = true) :
    DI T N sc cold top k (.Tuple elts kk tpos) (.Call (.Name "enumerate" p) [a] [] pos) (semEnum fs) := fun X W F =>
  PIimp (L2.pi_enum (gl_of F hg) (by rw [F.em]; exact hm) (ha X W F) (starEach1 hs)) fun σ H Q ⟨Φ, env, g0, o⟩ => ⟨Φ, env, g0, (OutL.bindI o).mono fun vs H1 ⟨rs, env1, Φ1, g1, r1, p1, o1⟩ => by
    rw [F.eK]
    match rs, r1, o1 with
    | [.val (.list as)], r1, o1 =>
      match vs, r1.valsOf (ds := [.list as]) rfl with
      | _, .cons r .nil =>
        have r : Rp T.K Φ1 _ (.list as) := r
        cases r with
        | lst sq ra z => exact ⟨_, _, rfl, (g1.le.ls sq).sq, o1 _ Φ1 H1 g1 (walkE sq.sq ra z) p1⟩⟩
theorem swapped_cell {x y : Str} {px py pt pt2 : Pos} {kt k2 : Nat} {a b : Expr} {env : PySem.Env} (h : (env.kindOf x == some .local) = false ∨ (env.kindOf y == some .local) = false) :
    swappedStores [.Tuple [.Name x px, .Name y py] kt pt] (.Tuple [a, b] k2 pt2) env = pure none := by
  unfold swappedStores
  rcases h with h | h <;> simp only [List.filterMap, h, Bool.false_and, Bool.false_eq_true, if_false] <;>
  · repeat' split
    all_goals first | rfl | (exfalso; rename_i q1 q2; exact q1 (by decide)) | (exfalso; rename_i q1 q2 q3; exact q1 (by decide)) | (exfalso; simp at *; done)
theorem ds_asgC {x y : Str} {px py pt pt2 pos : Pos} {kt k2 : Nat} {a b : Expr} {t : Tg} {fs : List Arg} (hc : cold = true) (ha : DA T N sc cold true k [a, b] fs)
    (hx : sc.names.lookup x = some .cell ∨ sc.names.lookup y = some .cell) (htg : tgOk N sc (fun _ => true) (.Tuple [.Name x px, .Name y py] kt pt) = some t) (hn : t.slots.all (fun i => !nr.contains i) = true) :
    DS T N sc cold nr k (.Assign [.Tuple [.Name x px, .Name y py] kt pt] (.Tuple [a, b] k2 pt2) pos) (semAsg t (semTup fs)) := fun X W σ0 F => by
  have hw : swappedStores [.Tuple [.Name x px, .Name y py] kt pt] (.Tuple [a, b] k2 pt2) X.env = pure none := swapped_cell (by
    rcases hx with e | e
    · left
      show (X.env.scope.names.lookup x == _) = false
      rw [F.es, e]; rfl
    · right
      show (X.env.scope.names.lookup y == _) = false
      rw [F.es, e]; rfl)
  refine PSimp (ps_asg (de_tup ha X W F) (pg_of F hc (fun x _ _ => .inl (F.fn rfl x)) _ t htg) rfl hw (by rw [assignEach_one (tgOk_star htg)]; rfl)) fun De σ H ⟨Φ, env, g, pn, o⟩ => ⟨Φ, env, g, (Out.thenS pn o).mono fun v H1 ⟨r, env1, e1, Φ1, g1, r1, p1, o1⟩ => by
    cases r with
    | val d =>
      simp only at o1
      cases e2 : t.bind d env1 with
      | none => rw [e2] at o1; exact o1.elim
      | some s2 =>
        rw [e2] at o1
        refine ⟨Φ1, env1, d, s2, g1, r1, e2, fun σ' g' p' s' => o1 σ' Φ1 H1 g' (pn.same s' fun i hi hj => ?_) ((p1.plain (r := .val d) fun b h => h).trans p')⟩
        have := List.all_eq_true.mp hn i hi
        simp [hj] at this
    | own w => exact o1.elim
    | slot j => exact o1.elim⟩
end
end EV
end
section
set_option Elab.async false
set_option linter.all false
set_option maxRecDepth 100000
set_option autoImplicit false
/-! EV31: more of loops -/
namespace EV
open PySem PySem.Spec PyProof.Rows L2
/-- a loop that goes through, or ends with an answer where p fails -/
theorem forLoop_all {α : Type} {t : Tg} {b : SemS} (f : α → D) (p : α → Bool) (v : R) (P Q : Sg → Prop) : ∀ (l : List α) (s : Sg), P s → (∀ d ∈ l, ∀ s, P s → ∃ s1, t.bind (f d) s = some s1 ∧ ((p d = true ∧ ∃ s2, b s1 = .nx s2 ∧ P s2) ∨ (p d = false ∧ ∃ s2, b s1 = .rt v s2 ∧ Q s2))) →
    (l.all p = true ∧ ∃ s', forLoop t b (l.map f) s = .nx s' ∧ P s') ∨ (l.all p = false ∧ ∃ s', forLoop t b (l.map f) s = .rt v s' ∧ Q s')
  | [], s, h, _ => .inl ⟨rfl, s, rfl, h⟩
  | d :: l, s, h, st => by
    obtain ⟨s1, e1, h1⟩ := st d (List.mem_cons_self ..) s h
    rcases h1 with ⟨hp, s2, e2, h2⟩ | ⟨hp, s2, e2, h2⟩
    · rcases forLoop_all f p v P Q l s2 h2 fun d' hd => st d' (List.mem_cons_of_mem _ hd) with ⟨c, s', e3, h3⟩ | ⟨c, s', e3, h3⟩
      · exact .inl ⟨by simp [hp, c], s', by simp only [List.map_cons, forLoop, e1, e2]; exact e3, h3⟩
      · exact .inr ⟨by simp [hp, c], s', by simp only [List.map_cons, forLoop, e1, e2]; exact e3, h3⟩
    · exact .inr ⟨by simp [hp], s2, by simp only [List.map_cons, forLoop, e1, e2], h2⟩
/-- a loop that ends with an answer at the first item of which p tells -/
theorem forLoop_find {α : Type} {t : Tg} {b : SemS} (f : α → D) (p : α → Bool) (g : α → R) (P Q : Sg → Prop) : ∀ (l : List α) (s : Sg), P s → (∀ d ∈ l, ∀ s, P s → ∃ s1, t.bind (f d) s = some s1 ∧ ((p d = false ∧ ∃ s2, b s1 = .nx s2 ∧ P s2) ∨ (p d = true ∧ ∃ s2, b s1 = .rt (g d) s2 ∧ Q s2))) →
    (l.find? p = none ∧ ∃ s', forLoop t b (l.map f) s = .nx s' ∧ P s') ∨ (∃ d, l.find? p = some d ∧ ∃ s', forLoop t b (l.map f) s = .rt (g d) s' ∧ Q s')
  | [], s, h, _ => .inl ⟨rfl, s, rfl, h⟩
  | d :: l, s, h, st => by
    obtain ⟨s1, e1, h1⟩ := st d (List.mem_cons_self ..) s h
    rcases h1 with ⟨hp, s2, e2, h2⟩ | ⟨hp, s2, e2, h2⟩
    · rcases forLoop_find f p g P Q l s2 h2 fun d' hd => st d' (List.mem_cons_of_mem _ hd) with ⟨c, s', e3, h3⟩ | ⟨d', c, s', e3, h3⟩
      · exact .inl ⟨by simp [hp, c], s', by simp only [List.map_cons, forLoop, e1, e2]; exact e3, h3⟩
      · exact .inr ⟨d', by simp [hp, c], s', by simp only [List.map_cons, forLoop, e1, e2]; exact e3, h3⟩
    · exact .inr ⟨d, by simp [hp], s2, by simp only [List.map_cons, forLoop, e1, e2], h2⟩
theorem compLoop_filterOf {α : Type} {vs : List Nat} {t : Tg} {c : SemB} {f : Sem} (h : α → D) (p : α → Bool) (g : α → D) (S : Sg) (l : List α) (s : Sg) (h0 : unS vs s = S)
    (st : ∀ d ∈ l, ∃ s1, t.bind (h d) S = some s1 ∧ ∃ s2, c s1 = .ok (p d) s2 ∧ unS vs s2 = S ∧ (p d = true → ∃ s3, f s2 = .ok (.val (g d)) s3 ∧ unS vs s3 = S)) :
    compLoop vs t c f (l.map h) s = .ok ((l.filter p).map g) S := by
  induction l generalizing s with
  | nil => simp only [List.map_nil, compLoop, h0, List.filter_nil]
  | cons d l ih =>
    obtain ⟨s1, e1, s2, e2, e2', st'⟩ := st d (List.mem_cons_self ..)
    cases hp : p d with
    | true =>
      obtain ⟨s3, e3, h3⟩ := st' hp
      have ih := ih s3 h3 fun d hd => st d (List.mem_cons_of_mem _ hd)
      simp only [List.map_cons, compLoop, h0, e1, e2, hp, Re.bindN, if_true, e3, ih, List.filter_cons]
    | false =>
      have ih := ih s2 e2' fun d hd => st d (List.mem_cons_of_mem _ hd)
      simp only [List.map_cons, compLoop, h0, e1, e2, hp, Re.bindN, Bool.false_eq_true, if_false, ih, List.filter_cons]
theorem zipD_range {as bs : List D} (h : as.length = bs.length) : zipD as bs = (List.range as.length).map fun j => .tuple [as.getD j .none, bs.getD j .none] := by
  induction as generalizing bs with
  | nil => rfl
  | cons a as ih =>
    cases bs with
    | nil => cases h
    | cons b bs =>
      rw [List.length_cons, List.range_succ_eq_map, List.map_cons, List.map_map]
      show PyData.tuple [a, b] :: zipD as bs = _
      rw [ih (by simpa using h)]
      rfl
theorem foldl_and {α : Type} (p : α → Bool) : ∀ (l : List α) (g : Bool), l.foldl (fun g a => g && p a) g = (g && l.all p)
  | [], g => by simp
  | a :: l, g => by simp [foldl_and p l, Bool.and_assoc]
theorem foldl_keep {α : Type} (p : α → Bool) : ∀ (l acc : List α), l.foldl (fun acc a => if p a = true then acc ++ [a] else acc) acc = acc ++ l.filter p
  | [], acc => by simp
  | a :: l, acc => by
    rw [List.foldl_cons, foldl_keep p l, List.filter_cons]
    split <;> simp
end EV
end
section
set_option Elab.async false
set_option linter.all false
set_option maxRecDepth 100000
set_option autoImplicit false
/-! EV32: lists of ints, of rows -/
namespace EV
open PySem PySem.Spec PyProof.Rows L2
/-- flat things and lists, tuples of such: small depth -/
theorem lay_ints : ∀ ns : List Int, PyData.canLayAll0 (ns.map .int) = true
  | [] => rfl
  | n :: ns => by simp [PyData.canLayAll0, PyData.canLay0, lay_ints ns]
theorem dep_ints (ns : List Int) : PyData.depthAll (ns.map .int) = 0 := Nat.le_zero.mp (depthAll_map (f := PyData.int) (W := 0) fun _ _ => by simp [PyData.depth])
theorem shp_iff {d : D} : shp d = true ↔ PyData.canLay0 d = true ∧ PyData.depth d ≤ 64 := by
  unfold shp SeqAt.shaped
  simp only [Bool.and_eq_true, decide_eq_true_eq]
theorem shp_ints (ns : List Int) : shp (.list (ns.map .int)) = true := shp_iff.mpr ⟨by simp [PyData.canLay0, lay_ints], by simp [PyData.depth, dep_ints]⟩
theorem shp_tints (ns : List Int) : shp (.tuple (ns.map .int)) = true := shp_iff.mpr ⟨by simp [PyData.canLay0, lay_ints], by simp [PyData.depth, dep_ints]⟩
theorem lay_all : ∀ {ds : List D}, (∀ d ∈ ds, PyData.canLay0 d = true) → PyData.canLayAll0 ds = true
  | [], _ => rfl
  | d :: ds, h => by simp [PyData.canLayAll0, h d (List.mem_cons_self ..), lay_all fun x hx => h x (List.mem_cons_of_mem _ hx)]
theorem shp_list {ds : List D} {W : Nat} (hW : W ≤ 60) (h : ∀ d ∈ ds, PyData.canLay0 d = true ∧ PyData.depth d ≤ W) : shp (.list ds) = true := shp_iff.mpr ⟨by simp [PyData.canLay0, lay_all fun d hd => (h d hd).1], by
  have := depthAll_le (W := W) fun d hd => (h d hd).2
  simp only [PyData.depth]; omega⟩
theorem eqvAll_ints (a b : List Int) : PyData.eqvAll (a.map .int) (b.map .int) = decide (a = b) := by
  have e : ∀ l : List Int, l.map PyData.int = (l.map (Sum.inl : Int → Key)).map kD := fun l => by rw [List.map_map]; rfl
  rw [e a, e b, eqvAll_kD]
  by_cases h : a = b
  · subst h; simp
  · rw [decide_eq_false h, decide_eq_false]
    intro z
    have := congrArg (List.map fun k : Key => match k with | .inl i => i | .inr _ => 0) z
    exact h (by simpa [List.map_map, Function.comp_def] using this)
theorem pNe_ints (a b : List Int) : pNe (.list (a.map .int)) (.list (b.map .int)) = some (.val (.bool (!decide (a = b)))) := by
  unfold pNe
  rw [shp_ints, shp_ints, PyData.eqv, eqvAll_ints]; rfl
theorem sort_ints (ns : List Int) : ∃ ms : List Int, sortD (ns.map .int) = ms.map .int := by
  have : ∀ d ∈ sortD (ns.map .int), ∃ i, d = PyData.int i := fun d hd => by
    unfold sortD at hd
    obtain ⟨i, -, rfl⟩ := List.mem_map.mp (List.mem_mergeSort.mp hd)
    exact ⟨i, rfl⟩
  generalize sortD (ns.map .int) = l at *
  induction l with
  | nil => exact ⟨[], rfl⟩
  | cons d l ih =>
    obtain ⟨i, rfl⟩ := this d (List.mem_cons_self ..)
    obtain ⟨ms, rfl⟩ := ih fun x hx => this x (List.mem_cons_of_mem _ hx)
    exact ⟨i :: ms, rfl⟩
theorem sortOk_ints (ns : List Int) (h : ns.length ≤ 1000000) : sortOk (ns.map .int) = true := by
  unfold sortOk
  simp only [Bool.and_eq_true, Bool.or_eq_true, List.all_eq_true]
  refine ⟨⟨⟨fun d hd e he => ?_, .inr fun d hd => ?_⟩, fun d hd => ?_⟩, szOk_of (by simpa using h)⟩
  · obtain ⟨i, -, rfl⟩ := List.mem_map.mp hd
    obtain ⟨j, -, rfl⟩ := List.mem_map.mp he
    rfl
  · obtain ⟨i, -, rfl⟩ := List.mem_map.mp hd
    rfl
  · obtain ⟨i, -, rfl⟩ := List.mem_map.mp hd
    rfl
theorem pSorted_ints (ns : List Int) (h : ns.length ≤ 1000000) : pSorted [.tuple (ns.map .int)] = some (.own (.lst (sortD (ns.map .int)))) := by
  unfold pSorted iterD
  simp only [Option.bind, sortOk_ints ns h, if_true]
end EV
end
section
set_option Elab.async false
set_option linter.all false
set_option maxRecDepth 100000
set_option autoImplicit false
/-! EV33: dicts whose keys are rows of ints -/
namespace EV
open PySem PySem.Spec PyProof.Rows L2
def rwD (r : List Int) : D := .tuple (r.map .int)
def dicR (ws : List (List Int × D)) : List (D × D) := ws.map fun w => (rwD w.1, w.2)
def putR (ws : List (List Int × D)) (r : List Int) (v : D) : List (List Int × D) := if (ws.any fun w => decide (w.1 = r)) = true then ws.map (fun w => if w.1 = r then (w.1, v) else w) else ws ++ [(r, v)]
def getR (ws : List (List Int × D)) (r : List Int) : Option D := (ws.find? fun w => decide (w.1 = r)).map (·.2)
theorem eqk_rows (a b : List Int) : eqk (rwD a) (rwD b) = decide (a = b) := by
  unfold eqk rwD
  rw [PyData.eqv, eqvAll_ints]
theorem dput_rows (ws : List (List Int × D)) (r : List Int) (v : D) : dput (dicR ws) (rwD r) v = dicR (putR ws r v) := by
  have e1 : ((dicR ws).any fun kv => eqk kv.1 (rwD r)) = ws.any fun w => decide (w.1 = r) := by
    unfold dicR
    rw [List.any_map]
    congr 1
    funext w
    exact eqk_rows _ _
  unfold dput putR
  rw [e1]
  split
  · unfold dicR
    rw [List.map_map, List.map_map]
    refine List.map_congr_left fun w _ => ?_
    simp only [Function.comp, eqk_rows, decide_eq_true_eq]
    split <;> rfl
  · unfold dicR
    rw [List.map_append]; rfl
theorem dget_rows (r : List Int) : ∀ ws : List (List Int × D), dget (dicR ws) (rwD r) = getR ws r
  | [] => rfl
  | w :: ws => by
    have ih := dget_rows r ws
    unfold dicR getR at *
    rw [List.map_cons, List.find?_cons]
    simp only [dget, eqk_rows, decide_eq_true_eq]
    by_cases c : w.1 = r
    · simp [c]
    · simp only [if_neg c, decide_eq_false c]
      exact ih
theorem ks_row (r : List Int) : ksD (rwD r) = some (.tup (r.map Sum.inl)) := by
  have : ∀ r : List Int, keysD (r.map .int) = some (r.map Sum.inl) := by
    intro r
    induction r with
    | nil => rfl
    | cons i r ih => simp [keysD, keyD, ih]
  unfold rwD
  simp only [ksD, this, Option.map]
theorem ksOk_rows (ws : List (List Int × D)) (ks : List Key) : ksOk (dicR ws) (.tup ks) = true := by
  cases ws <;> rfl
theorem setO_rows {ws : List (List Int × D)} (r : List Int) (v : D) (h : ws.length ≤ 1000000) : setO (.dic (dicR ws)) (rwD r) v = some (.dic (dicR (putR ws r v))) := by
  have hl : (dicR ws).length < sizeLine := lt_size' (by unfold dicR; simpa using h)
  unfold setO
  simp only [ks_row, Option.bind, ksOk_rows, Bool.true_and, decide_eq_true_eq, if_pos hl, dput_rows]
theorem sub_rows {ws : List (List Int × D)} {r : List Int} {v : D} (h : getR ws r = some v) : pSub1 (.dict (dicR ws)) (rwD r) = some (.val v) := by
  unfold pSub1 dlook
  simp only [ks_row, Option.bind, ksOk_rows, if_true, dget_rows, h]
  rfl
theorem in_rows {ws : List (List Int × D)} {r : List Int} : pIn (rwD r) (.dict (dicR ws)) = some (.val (.bool (getR ws r).isSome)) := by
  unfold pIn inD dlook
  simp only [ks_row, Option.bind, ksOk_rows, if_true, dget_rows]
  rfl
theorem putR_len (ws : List (List Int × D)) (r : List Int) (v : D) : (putR ws r v).length ≤ ws.length + 1 := by
  unfold putR
  split <;> simp
theorem getR_put (ws : List (List Int × D)) (r q : List Int) (v : D) : getR (putR ws r v) q = if r = q then some v else getR ws q := by
  unfold getR putR
  by_cases c : (ws.any fun w => decide (w.1 = r)) = true
  · rw [if_pos c]
    induction ws with
    | nil => cases c
    | cons w ws ih =>
      rw [List.map_cons, List.find?_cons, List.find?_cons]
      by_cases e : w.1 = r
      · subst e
        simp only [if_true]
        by_cases e2 : w.1 = q
        · subst e2; simp
        · simp only [decide_eq_false e2, if_neg e2]
          have : (ws.map fun w' => if w'.1 = w.1 then (w'.1, v) else w').find? (fun w' => decide (w'.1 = q)) = ws.find? fun w' => decide (w'.1 = q) := by
            clear c ih
            induction ws with
            | nil => rfl
            | cons x ws ih =>
              rw [List.map_cons, List.find?_cons, List.find?_cons, ih]
              by_cases e3 : x.1 = w.1
              · have : ¬ x.1 = q := fun z => e2 (e3 ▸ z)
                simp only [if_pos e3, decide_eq_false this]
              · simp only [if_neg e3]
          rw [this]
      · simp only [if_neg e]
        have c' : (ws.any fun w => decide (w.1 = r)) = true := by simpa [e] using c
        by_cases e2 : w.1 = q
        · have : ¬ r = q := fun z => e (e2.trans z.symm)
          simp [e2, this]
        · simp only [decide_eq_false e2]
          exact ih c'
  · rw [if_neg c]
    rw [List.find?_append]
    have c : ∀ w ∈ ws, ¬ w.1 = r := fun w hw z => c (List.any_eq_true.mpr ⟨w, hw, by simpa using z⟩)
    by_cases e : r = q
    · subst e
      have : ws.find? (fun w => decide (w.1 = r)) = none := List.find?_eq_none.mpr fun w hw => by simpa using c w hw
      simp [this]
    · simp only [if_neg e, List.find?_cons, decide_eq_false e, List.find?_nil]
      cases ws.find? (fun w => decide (w.1 = q)) <;> rfl
end EV
end
section
set_option Elab.async false
set_option linter.all false
set_option maxRecDepth 100000
set_option autoImplicit false
set_option maxHeartbeats 1000000
/-! EV34: zip(*rows) -/
namespace EV
open PySem PySem.Spec PyProof.Rows L2
def zIts (B n : Nat) : List Value := (List.range n).map fun j => Value.ref (B + j)
def zObj (B n : Nat) (f0 : Value) (fl : Bool) : Obj := ⟨.type "zip", none, .fields #[f0, .bool fl, .bool false, .ref (B + n), .ref (B + n + 1)], #[]⟩
/-- the iterators: those below j have gone on -/
def ZIt (h : Heap) (B : Nat) (as : List Addr) (i j : Nat) : Prop := ∀ (m : Nat) (a : Addr), as[m]? = some a → h.IsTupleIter (B + m) a (if m < j then i + 1 else i)
structure ZMid (h : Heap) (B : Nat) (as : List Addr) (i j : Nat) (f0 : Value) (fl : Bool) (us : Array Value) : Prop where
  z : h.get? (B + as.length + 2) = some (zObj B as.length f0 fl)
  ti : h.get? (B + as.length) = some ⟨.type "tuple", none, .seq (zIts B as.length).toArray 0, #[]⟩
  to : h.get? (B + as.length + 1) = some ⟨.type "tuple", none, .seq us 0, #[]⟩
  sz : us.size = as.length
  it : ZIt h B as i j
def ZSt (h : Heap) (B : Nat) (as : List Addr) (i : Nat) : Prop := ∃ f0 fl us, ZMid h B as i 0 f0 fl us ∧ (f0 = .none ∨ ∃ T : Nat, f0 = rawInt T)
/-- all but the zip's own cells stand -/
def Keeps (B n : Nat) (h h' : Heap) : Prop := ∀ c o, (c < B ∨ B + n + 3 ≤ c) → h.get? c = some o → h'.get? c = some o
theorem zIts_get {B n j : Nat} (h : j < n) : (zIts B n)[j]? = some (.ref (B + j)) := by unfold zIts; simp [h]
theorem zIts_len (B n : Nat) : (zIts B n).length = n := by unfold zIts; simp
theorem drop_cons {α : Type} {l : List α} {j : Nat} {x : α} {r : List α} (h : l.drop j = x :: r) : j < l.length ∧ l[j]? = some x ∧ r = l.drop (j + 1) := by
  have hj : j < l.length := by
    rcases Nat.lt_or_ge j l.length with q | q
    · exact q
    · rw [List.drop_of_length_le q] at h; cases h
  rw [List.drop_eq_getElem_cons hj] at h
  cases h
  exact ⟨hj, List.getElem?_eq_getElem hj, rfl⟩
section
variable {P : Program} {w : World} {A : Around} {E : Value → Shared → Prop} {s : Shared}
theorem ZMid.fix {h h' : Heap} {B i j : Nat} {as : List Addr} {f0 : Value} {fl : Bool} {us : Array Value} (st : ZMid h B as i j f0 fl us) (k : ∀ c o, B ≤ c → c < B + as.length + 3 → h.get? c = some o → h'.get? c = some o) : ZMid h' B as i j f0 fl us :=
  ⟨k (B + as.length + 2) _ (by omega) (by omega) st.z, k (B + as.length) _ (by omega) (by omega) st.ti, k (B + as.length + 1) _ (by omega) (by omega) st.to, st.sz, fun m a e => (st.it m a e).at fun o q => k (B + m) o (by omega) (by have := (List.getElem?_eq_some_iff.mp e).1; omega) q⟩
/-- a new first field, or second -/
theorem ZMid.setz {h h' : Heap} {B i j : Nat} {as : List Addr} {f0 g0 : Value} {fl gl : Bool} {us : Array Value} (st : ZMid h B as i j f0 fl us) (e : h'.get? (B + as.length + 2) = some (zObj B as.length g0 gl)) (hs : Heap.SameBut (B + as.length + 2) h h') : ZMid h' B as i j g0 gl us :=
  ⟨e, hs.extBut (B + as.length) _ (Nat.ne_of_lt (by omega)) st.ti, hs.extBut (B + as.length + 1) _ (Nat.ne_of_lt (by omega)) st.to, st.sz, fun m a q => (st.it m a q).at fun o z => hs.extBut (B + m) o (Nat.ne_of_lt (by have := (List.getElem?_eq_some_iff.mp q).1; omega)) z⟩
theorem Keeps.refl (B n : Nat) (h : Heap) : Keeps B n h h := fun _ _ _ e => e
theorem Keeps.trans {B n : Nat} {h h1 h2 : Heap} (p : Keeps B n h h1) (q : Keeps B n h1 h2) : Keeps B n h h2 := fun c o hc e => q c o hc (p c o hc e)
theorem Keeps.same {B n a : Nat} {h h' : Heap} (hs : Heap.SameBut a h h') (h1 : B ≤ a) (h2 : a < B + n + 3) : Keeps B n h h' := fun c o hc e => hs.extBut c o (fun q => by subst q; rcases hc with hc | hc <;> omega) e
theorem alive_any {a : Addr} {Q : Option Obj → Shared → Prop} (h : Q (s.heap.get? a) s) : wpAny (model P w) A (loadIfAlive a) Q E s := fun _ _ _ => h
theorem zs_free {B i : Nat} {as : List Addr} {f0 : Value} {fl : Bool} {us : Array Value} (st : ZMid s.heap B as i 0 f0 fl us) (hf : f0 = .none ∨ ∃ T : Nat, f0 = rawInt T) :
    wpAny (model P w) A (Builtin.SmallTypes.ownedTupleIsFree (.ref (B + as.length + 2))) (fun _ s' => ∃ h' f0' fl', s' = { s with heap := h' } ∧ ZMid h' B as i 0 f0' fl' us ∧ Keeps B as.length s.heap h' ∧ h'.objs.size = s.heap.objs.size ∧ (f0' = .none ∨ ∃ T : Nat, f0' = rawInt T)) E s := by
  unfold Builtin.SmallTypes.ownedTupleIsFree
  rcases hf with rfl | ⟨T, rfl⟩
  · exact wpAny_bind (wpAny_field st.z rfl (x := .none) rfl (wpAny_pure ⟨s.heap, _, _, rfl, st, Keeps.refl _ _ _, rfl, .inl rfl⟩))
  · refine wpAny_bind (wpAny_field st.z rfl (x := rawInt T) rfl ?_)
    show wpAny _ _ (loadIfAlive ((T : Int).toNat) >>= _) _ _ _
    refine wpAny_bind (alive_any ?_)
    cases s.heap.get? ((T : Int).toNat) with
    | none =>
      simp only [Option.isNone_none, if_true]
      exact wpAny_pure ⟨s.heap, _, _, rfl, st, Keeps.refl _ _ _, rfl, .inr ⟨T, rfl⟩⟩
    | some o =>
      simp only [Option.isNone_some, Bool.false_eq_true, if_false]
      refine wpAny_bind (wpAny_field st.z rfl (x := .bool fl) rfl ?_)
      cases fl with
      | true =>
        rw [if_neg (show ¬ ((Value.bool true != Value.bool true) = true) from Bool.false_ne_true)]
        exact wpAny_pure ⟨s.heap, _, _, rfl, st, Keeps.refl _ _ _, rfl, .inr ⟨T, rfl⟩⟩
      | false =>
        rw [if_pos (show (Value.bool false != Value.bool true) = true from rfl)]
        refine wpAny_bind (wpAny_setField_rec st.z (by simp) fun h1 e1 hs1 => ?_)
        exact wpAny_pure ⟨h1, rawInt T, true, rfl, st.setz e1 hs1, Keeps.same hs1 (by omega) (by omega), hs1.1, .inr ⟨T, rfl⟩⟩
theorem zs_next_item {B i : Nat} {as : List Addr} {ys : List Value} {Q : Value → Shared → Prop} (hn : 0 < as.length) (hz : as.length ≤ 1000) (hlen : ys.length = as.length) (st : ZSt s.heap B as i)
    (hit : ∀ (j : Nat) (a : Addr), as[j]? = some a → a < B ∧ ∃ items : Array Value, s.heap.IsTuple a items ∧ items[i]? = ys[j]?)
    (hQ : ∀ h', ZSt h' B as (i + 1) → h'.get? s.heap.objs.size = some ⟨.type "tuple", none, .seq ys.toArray 0, #[]⟩ → Keeps B as.length s.heap h' → Q (.ref s.heap.objs.size) { s with heap := h' }) :
    wpAny (model P w) A (Builtin.«zip.__next__» ⟨[.ref (B + as.length + 2)], []⟩) (fun fin s' => ∃ v, fin = .done (.ret v) ∧ Q v s') E s := by
  obtain ⟨f0, fl, us, st, hf⟩ := st
  show wpAny _ _ (field (.ref (B + as.length + 2)) 2 >>= _) _ _ _
  refine wpAny_bind (wpAny_field st.z rfl (x := .bool false) rfl ?_)
  show wpAny _ _ (field (.ref (B + as.length + 2)) 3 >>= _) _ _ _
  refine wpAny_bind (wpAny_field st.z rfl (x := .ref (B + as.length)) rfl ?_)
  refine wpAny_bind (wpAny_seqItems st.ti rfl ?_)
  have he : (zIts B as.length).toArray.isEmpty = false := by
    show decide ((zIts B as.length).toArray.size = 0) = false
    rw [List.size_toArray, zIts_len]
    exact decide_eq_false (by omega)
  simp only [he]
  rw [if_neg Bool.false_ne_true]
  have hzl : B + as.length + 2 < s.heap.objs.size := Heap.lt_size st.z
  have hsl : ys.length ≤ sizeLine := by rw [sizeLine_eq]; omega
  refine wpAny_bind (wpAny_mono (zs_free st hf) (fun b s1 hs1 => ?_) fun _ _ e => e)
  obtain ⟨h1, f1, fl1, rfl, st1, k1, n1, hf1⟩ := hs1
  have hit1 : ∀ h2, Keeps B as.length h1 h2 → ∀ (j : Nat) (a : Addr), as[j]? = some a → ∃ items : Array Value, h2.IsTuple a items ∧ items[i]? = ys[j]? := fun h2 k2 j a e => by
    obtain ⟨ha, items, q1, q2⟩ := hit j a e
    exact ⟨items, q1.at fun o z => k2 a o (.inl ha) (k1 a o (.inl ha) z), q2⟩
  cases b with
  | true =>
    simp only [if_true]
    refine wpAny_bind (wpAny_rule ?_)
    refine wpAny_bind (wpAny_field st1.z rfl (x := .ref (B + as.length + 1)) rfl ?_)
    refine wpAny_bind (wpAny_setField_rec st1.z (by simp) fun h2 e2 hs2 => ?_)
    have st2 : ZMid h2 B as i 0 .ellipsis fl1 us := st1.setz e2 hs2
    have k2 : Keeps B as.length h1 h2 := Keeps.same hs2 (by omega) (by omega)
    refine wpAny_bind (wpAny_mono (wpAny_forIn_list _ (fun rest b s' => ∃ j h' us', rest = (zIts B as.length).zipIdx.drop j ∧ j ≤ as.length ∧ b = (none, ()) ∧ s' = { s with heap := h' } ∧ ZMid h' B as i j .ellipsis fl1 us' ∧ (∀ m, m < j → us'[m]? = ys[m]?) ∧ Keeps B as.length h1 h' ∧ h'.objs.size = h1.objs.size)
      (fun b s' => ∃ h' us', b = (none, ()) ∧ s' = { s with heap := h' } ∧ ZMid h' B as i as.length .ellipsis fl1 us' ∧ us' = ys.toArray ∧ Keeps B as.length h1 h' ∧ h'.objs.size = h1.objs.size) ?turn ?fin _ _ ⟨0, h2, us, rfl, Nat.zero_le _, rfl, rfl, st2, fun m hm => absurd hm (by omega), k2, hs2.1⟩) ?cont fun _ _ e => e)
    case turn =>
      rintro x rest b s' ⟨j, h', us', e, hj, rfl, rfl, stj, hus, kj, nj⟩
      obtain ⟨g1, g2, rfl⟩ := drop_cons e.symm
      rw [List.length_zipIdx, zIts_len] at g1
      have g3 : x = (.ref (B + j), j) := by
        have := zIts_get (B := B) g1
        simp [List.getElem?_zipIdx, this] at g2
        exact g2.symm
      subst g3
      have ga := List.getElem?_eq_getElem g1
      obtain ⟨items, t1, t2⟩ := hit1 h' kj j _ ga
      have hy : j < ys.length := by omega
      rw [List.getElem?_eq_getElem hy] at t2
      have itj := stj.it j _ ga
      rw [if_neg (Nat.lt_irrefl j)] at itj
      refine wpAny_bind (wpAny_onRaise ?_)
      show wpAny _ _ (Builtin.SmallTypes.nextOf (.ref (B + j)) >>= _) _ _ _
      refine wpAny_bind (RZ.nextOf_tuple_item itj t1 t2 fun h3 e3 hs3 => wpAny_pure ?_)
      have k3 : Keeps B as.length h' h3 := Keeps.same hs3 (by omega) (by omega)
      have to3 := hs3.extBut (B + as.length + 1) _ (Nat.ne_of_gt (by omega)) stj.to
      refine wpAny_bind (wpAny_seqItems to3 rfl ?_)
      refine wpAny_bind (wpAny_updateSeq to3 rfl ?_ (by rw [stj.sz, sizeLine_eq]; omega) (by rw [Array.size_setIfInBounds, stj.sz, sizeLine_eq]; omega))
      refine wpAny_bind (wpAny_letGo (wpAny_pure ?_))
      have hs4 : Heap.SameBut (B + as.length + 1) h3 (h3.update (B + as.length + 1) (Obj.mapSeq (·.setIfInBounds j ys[j]))) := Heap.SameBut.update ..
      have e4 : (h3.update (B + as.length + 1) (Obj.mapSeq (·.setIfInBounds j ys[j]))).get? (B + as.length + 1) = some ⟨.type "tuple", none, .seq (us'.setIfInBounds j ys[j]) 0, #[]⟩ := by
        rw [Heap.get?_update_self _ to3 rfl]
        simp [Obj.mapSeq]
      refine ⟨j + 1, _, us'.setIfInBounds j ys[j], rfl, by omega, rfl, rfl, ⟨hs4.extBut (B + as.length + 2) _ (Nat.ne_of_gt (by omega)) (hs3.extBut (B + as.length + 2) _ (Nat.ne_of_gt (by omega)) stj.z), hs4.extBut (B + as.length) _ (Nat.ne_of_lt (by omega)) (hs3.extBut (B + as.length) _ (Nat.ne_of_gt (by omega)) stj.ti), e4, by rw [Array.size_setIfInBounds]; exact stj.sz, fun m a q => ?_⟩, fun m hm => ?_, (kj.trans k3).trans (Keeps.same hs4 (by omega) (by omega)), by rw [hs4.1, hs3.1]; exact nj⟩
      · have hml := (List.getElem?_eq_some_iff.mp q).1
        by_cases c : m = j
        · subst c
          rw [if_pos (by omega)]
          rw [ga] at q; cases q
          exact e3.at fun o z => hs4.extBut (B + m) o (Nat.ne_of_lt (by omega)) z
        · have e5 : (if m < j + 1 then i + 1 else i) = if m < j then i + 1 else i := by
            by_cases c2 : m < j
            · rw [if_pos c2, if_pos (by omega)]
            · rw [if_neg c2, if_neg (by omega)]
          rw [e5]
          exact (stj.it m a q).at fun o z => hs4.extBut (B + m) o (Nat.ne_of_lt (by omega)) (hs3.extBut (B + m) o (fun x => c (Nat.add_left_cancel x)) z)
      · by_cases c : m = j
        · subst c
          rw [Array.getElem?_setIfInBounds_self_of_lt (by rw [stj.sz]; omega), List.getElem?_eq_getElem hy]
        · rw [Array.getElem?_setIfInBounds_ne (Ne.symm c)]
          exact hus m (by omega)
    case fin =>
      rintro b s' ⟨j, h', us', e, hj, rfl, rfl, stj, hus, kj, nj⟩
      have hjn : j = as.length := by
        have := congrArg List.length e
        simp only [List.length_nil, List.length_drop, List.length_zipIdx, zIts_len] at this
        omega
      subst hjn
      refine ⟨h', us', rfl, rfl, stj, ?_, kj, nj⟩
      apply Array.ext'
      refine List.ext_getElem? fun m => ?_
      rcases Nat.lt_or_ge m as.length with q | q
      · simpa using hus m q
      · rw [List.getElem?_eq_none (by have := stj.sz; simpa [this] using q), List.getElem?_eq_none (by simpa [hlen] using q)]
    case cont =>
      rintro b s' ⟨h', us', rfl, rfl, st3, rfl, k3, n3⟩
      refine wpAny_bind (wpAny_seqItems st3.to rfl ?_)
      refine wpAny_bind (wpAny_newTuple ?_ (by simpa using hsl))
      have nn : h'.objs.size = s.heap.objs.size := by rw [n3, n1]
      rw [show (ys.toArray.toList.toArray : Array Value) = ys.toArray by simp]
      have k4 : ∀ c o, h'.get? c = some o → (h'.push ⟨.type "tuple", none, .seq ys.toArray 0, #[]⟩).get? c = some o := fun c o => Heap.get?_push_of_some _
      have t4 : (h'.push ⟨.type "tuple", none, .seq ys.toArray 0, #[]⟩).get? h'.objs.size = some ⟨.type "tuple", none, .seq ys.toArray 0, #[]⟩ := Heap.get?_push_size _ rfl
      generalize h'.push ⟨.type "tuple", none, .seq ys.toArray 0, #[]⟩ = h4 at *
      have st4 : ZMid h4 B as i as.length .ellipsis fl1 ys.toArray := st3.fix fun c o _ _ => k4 c o
      refine wpAny_bind ?_
      unfold Builtin.SmallTypes.ownedTupleHandOut
      refine wpAny_bind (wpAny_setField_rec st4.z (by simp) fun h5 e5 hs5 => ?_)
      have st5 : ZMid h5 B as i as.length (rawInt h'.objs.size) fl1 ys.toArray := st4.setz e5 hs5
      refine wpAny_setField_rec st5.z (by simp) fun h6 e6 hs6 => ?_
      have st6 : ZMid h6 B as i as.length (rawInt h'.objs.size) false ys.toArray := st5.setz e6 hs6
      refine wpAny_pure ⟨_, rfl, ?_⟩
      rw [nn] at *
      refine hQ h6 ⟨_, _, _, ⟨st6.z, st6.ti, st6.to, st6.sz, fun m a q => ?_⟩, .inr ⟨_, rfl⟩⟩ ?_ ?_
      · have := st6.it m a q
        rw [if_pos (List.getElem?_eq_some_iff.mp q).1] at this
        rw [if_neg (Nat.not_lt_zero m)]
        exact this
      · exact hs6.extBut _ _ (Nat.ne_of_gt hzl) (hs5.extBut _ _ (Nat.ne_of_gt hzl) t4)
      · exact ((k1.trans k3).trans fun c o _ => k4 c o).trans ((Keeps.same hs5 (by omega) (by omega)).trans (Keeps.same hs6 (by omega) (by omega)))
  | false =>
    simp only [Bool.false_eq_true, if_false]
    refine wpAny_bind (wpAny_mono (PySem.wpAny_forIn_array' _ (fun rest b s' => ∃ j h', rest = (zIts B as.length).drop j ∧ j ≤ as.length ∧ b = (none, (ys.take j).toArray) ∧ s' = { s with heap := h' } ∧ ZMid h' B as i j f1 fl1 us ∧ Keeps B as.length h1 h' ∧ h'.objs.size = h1.objs.size)
      (fun b s' => ∃ h', b = (none, ys.toArray) ∧ s' = { s with heap := h' } ∧ ZMid h' B as i as.length f1 fl1 us ∧ Keeps B as.length h1 h' ∧ h'.objs.size = h1.objs.size) ?turn ?fin _ _ ⟨0, h1, by simp, Nat.zero_le _, by simp, rfl, st1, Keeps.refl _ _ _, rfl⟩) ?cont fun _ _ e => e)
    case turn =>
      rintro x rest b s' ⟨j, h', e, hj, rfl, rfl, stj, kj, nj⟩
      obtain ⟨g1, g2, rfl⟩ := drop_cons e.symm
      rw [zIts_len] at g1
      rw [zIts_get g1] at g2
      cases g2
      have ga := List.getElem?_eq_getElem g1
      obtain ⟨items, t1, t2⟩ := hit1 h' kj j _ ga
      have hy : j < ys.length := by omega
      rw [List.getElem?_eq_getElem hy] at t2
      have itj := stj.it j _ ga
      rw [if_neg (Nat.lt_irrefl j)] at itj
      refine wpAny_bind (wpAny_holding ?_)
      show wpAny _ _ (Builtin.SmallTypes.nextOf (.ref (B + j)) >>= _) _ _ _
      refine wpAny_bind (RZ.nextOf_tuple_item itj t1 t2 fun h3 e3 hs3 => wpAny_pure ?_)
      refine wpAny_pure ?_
      refine ⟨j + 1, h3, rfl, by omega, ?_, rfl, ⟨hs3.extBut (B + as.length + 2) _ (Nat.ne_of_gt (by omega)) stj.z, hs3.extBut (B + as.length) _ (Nat.ne_of_gt (by omega)) stj.ti, hs3.extBut (B + as.length + 1) _ (Nat.ne_of_gt (by omega)) stj.to, stj.sz, fun m a q => ?_⟩, kj.trans (Keeps.same hs3 (by omega) (by omega)), by rw [hs3.1]; exact nj⟩
      · rw [List.take_add_one, List.getElem?_eq_getElem hy]
        simp
      · by_cases c : m = j
        · subst c
          rw [if_pos (by omega)]
          rw [ga] at q; cases q
          exact e3
        · have e5 : (if m < j + 1 then i + 1 else i) = if m < j then i + 1 else i := by
            by_cases c2 : m < j
            · rw [if_pos c2, if_pos (by omega)]
            · rw [if_neg c2, if_neg (by omega)]
          rw [e5]
          exact (stj.it m a q).at fun o z => hs3.extBut (B + m) o (fun x => c (Nat.add_left_cancel x)) z
    case fin =>
      rintro b s' ⟨j, h', e, hj, rfl, rfl, stj, kj, nj⟩
      have hjn : j = as.length := by
        have := congrArg List.length e
        simp only [List.length_nil, List.length_drop, zIts_len] at this
        omega
      subst hjn
      exact ⟨h', by rw [List.take_of_length_le (by omega)], rfl, stj, kj, nj⟩
    case cont =>
      rintro b s' ⟨h', rfl, rfl, st3, k3, n3⟩
      refine wpAny_bind (wpAny_newTuple ?_ (by simpa using hsl))
      have nn : h'.objs.size = s.heap.objs.size := by rw [n3, n1]
      rw [show (ys.toArray.toList.toArray : Array Value) = ys.toArray by simp]
      have k4 : ∀ c o, h'.get? c = some o → (h'.push ⟨.type "tuple", none, .seq ys.toArray 0, #[]⟩).get? c = some o := fun c o => Heap.get?_push_of_some _
      have t4 : (h'.push ⟨.type "tuple", none, .seq ys.toArray 0, #[]⟩).get? h'.objs.size = some ⟨.type "tuple", none, .seq ys.toArray 0, #[]⟩ := Heap.get?_push_size _ rfl
      rw [nn] at *
      refine wpAny_pure ⟨_, rfl, hQ _ ⟨_, _, _, ⟨k4 _ _ st3.z, k4 _ _ st3.ti, k4 _ _ st3.to, st3.sz, fun m a q => ?_⟩, hf1⟩ t4 ((k1.trans k3).trans fun c o _ => k4 c o)⟩
      have := st3.it m a q
      rw [if_pos (List.getElem?_eq_some_iff.mp q).1] at this
      rw [if_neg (Nat.not_lt_zero m)]
      exact this.at fun o z => k4 _ _ z
theorem zs_next_end {B i : Nat} {as : List Addr} {Q : Fin → Shared → Prop} (hh : A.handled = none) (hn : 0 < as.length) (st : ZSt s.heap B as i)
    (hit : ∀ a : Addr, as[0]? = some a → a < B ∧ ∃ items : Array Value, s.heap.IsTuple a items ∧ items[i]? = none)
    (hE : ∀ h' e, Keeps B as.length s.heap h' → (∃ o, h'.get? e = some o ∧ o.cls = .type "StopIteration") → E (.ref e) { s with heap := h' }) :
    wpAny (model P w) A (Builtin.«zip.__next__» ⟨[.ref (B + as.length + 2)], []⟩) Q E s := by
  obtain ⟨f0, fl, us, st, hf⟩ := st
  show wpAny _ _ (field (.ref (B + as.length + 2)) 2 >>= _) _ _ _
  refine wpAny_bind (wpAny_field st.z rfl (x := .bool false) rfl ?_)
  show wpAny _ _ (field (.ref (B + as.length + 2)) 3 >>= _) _ _ _
  refine wpAny_bind (wpAny_field st.z rfl (x := .ref (B + as.length)) rfl ?_)
  refine wpAny_bind (wpAny_seqItems st.ti rfl ?_)
  have he : (zIts B as.length).toArray.isEmpty = false := by
    show decide ((zIts B as.length).toArray.size = 0) = false
    rw [List.size_toArray, zIts_len]
    exact decide_eq_false (by omega)
  simp only [he]
  rw [if_neg Bool.false_ne_true]
  refine wpAny_bind (wpAny_mono (zs_free st hf) (fun b s1 hs1 => ?_) fun _ _ e => e)
  obtain ⟨h1, f1, fl1, rfl, st1, k1, n1, hf1⟩ := hs1
  have ga := List.getElem?_eq_getElem hn
  obtain ⟨hlt, items, t1, t2⟩ := hit _ ga
  have first : ∀ h2, Keeps B as.length h1 h2 → ZIt h2 B as i 0 → h2.IsTuple as[0] items ∧ h2.IsTupleIter B as[0] i := fun h2 k2 z2 => by
    refine ⟨t1.at fun o z => k2 _ o (.inl hlt) (k1 _ o (.inl hlt) z), ?_⟩
    have := z2 0 _ ga
    rw [if_neg (Nat.lt_irrefl 0)] at this
    exact this
  cases b with
  | true =>
    simp only [if_true]
    refine wpAny_bind (wpAny_rule ?_)
    refine wpAny_bind (wpAny_field st1.z rfl (x := .ref (B + as.length + 1)) rfl ?_)
    refine wpAny_bind (wpAny_setField_rec st1.z (by simp) fun h2 e2 hs2 => ?_)
    have st2 : ZMid h2 B as i 0 .ellipsis fl1 us := st1.setz e2 hs2
    have k2 : Keeps B as.length h1 h2 := Keeps.same hs2 (by omega) (by omega)
    refine wpAny_bind (wpAny_mono (wpAny_forIn_list _ (fun rest b s' => rest = (zIts B as.length).zipIdx ∧ s' = { s with heap := h2 }) (fun _ _ => False) ?turn ?fin _ _ ⟨rfl, rfl⟩) ?cont fun _ _ e => e)
    case turn =>
      rintro x rest b s' ⟨e, rfl⟩
      have e' : (zIts B as.length).zipIdx.drop 0 = x :: rest := e.symm
      obtain ⟨g1, g2, g4⟩ := drop_cons e'
      have g3 : x = (.ref (B + 0), 0) := by
        have := zIts_get (B := B) hn
        simp [List.getElem?_zipIdx, this] at g2
        exact g2.symm
      subst g3
      obtain ⟨q1, q2⟩ := first h2 k2 st2.it
      refine wpAny_bind (wpAny_onRaise ?_)
      show wpAny _ _ (Builtin.SmallTypes.nextOf (.ref B) >>= _) _ _ _
      refine wpAny_bind (RZ.nextOf_tuple_end hh q2 q1 t2 fun h3 e hs3 he3 => ?_)
      obtain ⟨oe, hoe, hce⟩ := he3
      have z3 := hs3 (B + as.length + 2) _ (Nat.ne_of_gt (by omega)) st2.z
      have hez : e ≠ B + as.length + 2 := fun x => by subst x; rw [z3] at hoe; cases hoe; simp [zObj] at hce
      refine wpAny_setField_rec z3 (by simp) fun h4 _ hs4 => hE h4 e ?_ ⟨oe, hs4.extBut _ _ hez hoe, hce⟩
      exact (k1.trans k2).trans fun c o hc q => hs4.extBut c o (fun x => by subst x; rcases hc with hc | hc <;> omega) (hs3 c o (fun x => by subst x; rcases hc with hc | hc <;> omega) q)
    case fin =>
      rintro b s' ⟨e, -⟩
      have := congrArg List.length e
      simp only [List.length_nil, List.length_zipIdx, zIts_len] at this
      omega
    case cont => exact fun _ _ x => x.elim
  | false =>
    simp only [Bool.false_eq_true, if_false]
    refine wpAny_bind (wpAny_mono (PySem.wpAny_forIn_array' _ (fun rest b s' => rest = zIts B as.length ∧ s' = { s with heap := h1 }) (fun _ _ => False) ?turn ?fin _ _ ⟨by simp, rfl⟩) ?cont fun _ _ e => e)
    case turn =>
      rintro x rest b s' ⟨e, rfl⟩
      have e' : (zIts B as.length).drop 0 = x :: rest := e.symm
      obtain ⟨g1, g2, g4⟩ := drop_cons e'
      rw [zIts_get hn] at g2
      cases g2
      obtain ⟨q1, q2⟩ := first h1 (Keeps.refl _ _ _) st1.it
      refine wpAny_bind (wpAny_holding ?_)
      show wpAny _ _ (Builtin.SmallTypes.nextOf (.ref B) >>= _) _ _ _
      refine wpAny_bind (RZ.nextOf_tuple_end hh q2 q1 t2 fun h3 e hs3 he3 => ?_)
      refine hE h3 e (k1.trans fun c o hc q => hs3 c o (fun x => by subst x; rcases hc with hc | hc <;> omega) q) he3
    case fin =>
      rintro b s' ⟨e, -⟩
      have := congrArg List.length e
      simp only [List.length_nil, zIts_len] at this
      omega
    case cont => exact fun _ _ x => x.elim
theorem zs_pyNext_item {B i : Nat} {as : List Addr} {ys : List Value} {Q : Option Value → Shared → Prop} (hn : 0 < as.length) (hz : as.length ≤ 1000) (hlen : ys.length = as.length) (st : ZSt s.heap B as i)
    (hit : ∀ (j : Nat) (a : Addr), as[j]? = some a → a < B ∧ ∃ items : Array Value, s.heap.IsTuple a items ∧ items[i]? = ys[j]?)
    (hQ : ∀ h', ZSt h' B as (i + 1) → h'.get? s.heap.objs.size = some ⟨.type "tuple", none, .seq ys.toArray 0, #[]⟩ → Keeps B as.length s.heap h' → Q (some (.ref s.heap.objs.size)) { s with heap := h' }) :
    wpAny (model P w) A (pyNext (.ref (B + as.length + 2))) Q E s := by
  have hT : s.TypeIs (.ref (B + as.length + 2)) "zip" := by
    obtain ⟨_, _, _, st, _⟩ := st
    exact ⟨_, st.z, rfl⟩
  unfold pyNext
  exact wpAny_bind (wpAny_attempt (wpAny_callSpecial?_slot (name := Str.ofString "__next__") hT PySem.F.slot_zip_next
    (wpAny_call_entry PySem.F.slot_zip_next hT PySem.F.entry_zip_next (zs_next_item hn hz hlen st hit fun h' a1 a2 a3 => wpAny_pure (hQ h' a1 a2 a3)) (PySem.F.args_zip_next_1 _))))
theorem zs_pyNext_end {B i : Nat} {as : List Addr} {Q : Option Value → Shared → Prop} (hh : A.in1.handled = none) (hn : 0 < as.length) (st : ZSt s.heap B as i)
    (hit : ∀ a : Addr, as[0]? = some a → a < B ∧ ∃ items : Array Value, s.heap.IsTuple a items ∧ items[i]? = none)
    (hQ : ∀ h', Keeps B as.length s.heap h' → Q none { s with heap := h' }) : wpAny (model P w) A (pyNext (.ref (B + as.length + 2))) Q E s := by
  have hT : s.TypeIs (.ref (B + as.length + 2)) "zip" := by
    obtain ⟨_, _, _, st, _⟩ := st
    exact ⟨_, st.z, rfl⟩
  unfold pyNext
  refine wpAny_bind (wpAny_attempt (wpAny_callSpecial?_slot (name := Str.ofString "__next__") hT PySem.F.slot_zip_next
    (wpAny_call_entry PySem.F.slot_zip_next hT PySem.F.entry_zip_next (zs_next_end hh hn st hit fun h' e hk he => ?_) (PySem.F.args_zip_next_1 _))))
  obtain ⟨o, ho, hc⟩ := he
  refine wpAny_bind (wpAny_isInstance (T := "StopIteration") (b := true) ⟨o, ho, hc⟩ isSubtype_stop ?_)
  exact wpAny_pure (hQ _ hk)
end
end EV
end
section
set_option Elab.async false
set_option linter.all false
set_option maxRecDepth 100000
set_option autoImplicit false
set_option maxHeartbeats 1000000
/-! EV35: zip(*rows) is called (printed by genzip.py) -/
namespace EV
open PySem PySem.Spec PyProof.Rows L2
section
variable {P : Program} {w : World} {A : Around} {E : Value → Shared → Prop} {s : Shared}
def zItO (p : Addr) : Obj := ⟨.type "tuple_iterator", none, .fields #[.ref p, .int 0 0], #[]⟩
def zTupO (vs : List Value) : Obj := ⟨.type "tuple", none, .seq vs.toArray 0, #[]⟩
abbrev zn1_1 (h : Heap) (p0 : Addr) : Heap := h.push ⟨.type "tuple_iterator", none, .fields #[.ref p0, .int 0 0], #[]⟩
abbrev zt1 (h : Heap) (p0 : Addr) : Heap := (zn1_1 h p0).push ⟨.type "tuple", none, .seq #[.ref h.objs.size] 0, #[]⟩
abbrev zo1 (h : Heap) (p0 : Addr) : Heap := (zt1 h p0).push ⟨.type "tuple", none, .seq #[.none] 0, #[]⟩
abbrev zz1 (h : Heap) (p0 : Addr) : Heap := (zo1 h p0).push ⟨.type "zip", none, .fields #[.none, .bool false, .bool false, .ref (zn1_1 h p0).objs.size, .ref (zt1 h p0).objs.size], #[]⟩
theorem zs_new1 (p0 : Addr) (u0 : Array Value) : Meets (Builtin.«zip.__new__» ⟨[.type "zip", .ref p0], []⟩)
    (fun _ R s => s.heap.IsTuple p0 u0 ∧ R (.ok (.ret (.ref (zo1 s.heap p0).objs.size))) { s with heap := zz1 s.heap p0 }) :=
  .of_wp fun P w A R s hyp => by
    obtain ⟨hp, g, d, tk, os⟩ := s
    obtain ⟨a0, hyp⟩ := hyp
    have hsub := sub_zip
    have b0 : Heap.IsTuple (Shared.heap ⟨hp, g, d, tk, os⟩) p0 u0 := a0
    wp_walk using wpAny_pyIter_tuple b0
    exact ⟨_, rfl, hyp⟩
theorem zs_typ1 (x0 : Value) : checkTypeCall "zip" ⟨[x0], []⟩ = pure () := by kernel_rfl
theorem zs_chk1 (x0 : Value) : checkBuiltinCall "zip.__new__" ⟨[.type "zip", x0], []⟩ = pure () := by kernel_rfl
theorem zs_ini1 (o x0 : Value) : argsOk "object.__init__" ⟨[o, x0], []⟩ := by
  unfold argsOk; rw [signature?_of (n := ['_', '_', 't', 'i', 'n', 'i', '_', '_']) (o := ['t', 'c', 'e', 'j', 'b', 'o']) (id := "object.__init__") (by kernel_rfl) PySem.F.owner_object]; kernel_rfl
theorem zs_call1 {p0 : Addr} {u0 : Array Value} {Q : Value → Shared → Prop} (a0 : s.heap.IsTuple p0 u0)
    (hyp : ∀ h', ZSt h' s.heap.objs.size [p0] 0 → (∀ c o, s.heap.get? c = some o → h'.get? c = some o) → Q (.ref (s.heap.objs.size + 1 + 2)) { s with heap := h' }) :
    wpAny (model P w) A (call (.type "zip") [.ref p0]) Q E s := by
  refine callType_new PySem.F.called_zip (by decide) (zs_typ1 _) (zs_chk1 _) (fun o => zs_ini1 o _) PySem.F.entry_zip_new (zs_new1 p0 u0) ⟨a0, ?_⟩
  have n1 : (zn1_1 s.heap p0).objs.size = s.heap.objs.size + 1 := Heap.size_push ..
  have n2 : (zt1 s.heap p0).objs.size = s.heap.objs.size + 2 := by rw [Heap.size_push, n1]
  have n3 : (zo1 s.heap p0).objs.size = s.heap.objs.size + 3 := by rw [Heap.size_push, n2]
  have k3 : ∀ c o, (zz1 s.heap p0).get? c = some o → (zz1 s.heap p0).get? c = some o := fun _ _ e => e
  have k2 : ∀ c o, (zo1 s.heap p0).get? c = some o → (zz1 s.heap p0).get? c = some o := fun c o x => k3 c o (Heap.get?_push_of_some _ x)
  have k1 : ∀ c o, (zt1 s.heap p0).get? c = some o → (zz1 s.heap p0).get? c = some o := fun c o x => k2 c o (Heap.get?_push_of_some _ x)
  have k0 : ∀ c o, (zn1_1 s.heap p0).get? c = some o → (zz1 s.heap p0).get? c = some o := fun c o x => k1 c o (Heap.get?_push_of_some _ x)
  have kk : ∀ c o, s.heap.get? c = some o → (zz1 s.heap p0).get? c = some o := fun c o x => k0 c o (Heap.get?_push_of_some _ x)
  have g0 : (zz1 s.heap p0).get? s.heap.objs.size = some ⟨.type "tuple_iterator", none, .fields #[.ref p0, .int 0 0], #[]⟩ := k0 _ _ (Heap.get?_push_size _ rfl)
  have gt : (zz1 s.heap p0).get? (zn1_1 s.heap p0).objs.size = some ⟨.type "tuple", none, .seq #[.ref s.heap.objs.size] 0, #[]⟩ := k1 _ _ (Heap.get?_push_size _ rfl)
  have go : (zz1 s.heap p0).get? (zt1 s.heap p0).objs.size = some ⟨.type "tuple", none, .seq #[.none] 0, #[]⟩ := k2 _ _ (Heap.get?_push_size _ rfl)
  have gz : (zz1 s.heap p0).get? (zo1 s.heap p0).objs.size = some ⟨.type "zip", none, .fields #[.none, .bool false, .bool false, .ref (zn1_1 s.heap p0).objs.size, .ref (zt1 s.heap p0).objs.size], #[]⟩ := Heap.get?_push_size _ rfl
  rw [n1] at gt
  rw [n2] at go
  rw [n1, n2, n3] at gz
  show _ ∧ _
  rw [n3]
  refine ⟨⟨_, gz, rfl⟩, hyp _ ⟨.none, false, #[.none], ⟨gz, gt, go, rfl, fun m a e => ?_⟩, .inl rfl⟩ kk⟩
  rw [if_neg (Nat.not_lt_zero m)]
  match m, e with
  | 0, e => cases e; exact ⟨_, g0, rfl, rfl⟩
  | m + 1, e => simp at e
abbrev zn2_1 (h : Heap) (p0 : Addr) : Heap := h.push ⟨.type "tuple_iterator", none, .fields #[.ref p0, .int 0 0], #[]⟩
abbrev zn2_2 (h : Heap) (p0 p1 : Addr) : Heap := (zn2_1 h p0).push ⟨.type "tuple_iterator", none, .fields #[.ref p1, .int 0 0], #[]⟩
abbrev zt2 (h : Heap) (p0 p1 : Addr) : Heap := (zn2_2 h p0 p1).push ⟨.type "tuple", none, .seq #[.ref h.objs.size, .ref (zn2_1 h p0).objs.size] 0, #[]⟩
abbrev zo2 (h : Heap) (p0 p1 : Addr) : Heap := (zt2 h p0 p1).push ⟨.type "tuple", none, .seq #[.none, .none] 0, #[]⟩
abbrev zz2 (h : Heap) (p0 p1 : Addr) : Heap := (zo2 h p0 p1).push ⟨.type "zip", none, .fields #[.none, .bool false, .bool false, .ref (zn2_2 h p0 p1).objs.size, .ref (zt2 h p0 p1).objs.size], #[]⟩
theorem zs_new2 (p0 p1 : Addr) (u0 u1 : Array Value) : Meets (Builtin.«zip.__new__» ⟨[.type "zip", .ref p0, .ref p1], []⟩)
    (fun _ R s => s.heap.IsTuple p0 u0 ∧ s.heap.IsTuple p1 u1 ∧ R (.ok (.ret (.ref (zo2 s.heap p0 p1).objs.size))) { s with heap := zz2 s.heap p0 p1 }) :=
  .of_wp fun P w A R s hyp => by
    obtain ⟨hp, g, d, tk, os⟩ := s
    obtain ⟨a0, a1, hyp⟩ := hyp
    have hsub := sub_zip
    have b0 : Heap.IsTuple (Shared.heap ⟨hp, g, d, tk, os⟩) p0 u0 := a0
    have b1 : Heap.IsTuple (Shared.heap ⟨(zn2_1 hp p0), g, d, tk, os⟩) p1 u1 := (Heap.IsTuple.push a1 _)
    wp_walk using wpAny_pyIter_tuple b0, wpAny_pyIter_tuple b1
    exact ⟨_, rfl, hyp⟩
theorem zs_typ2 (x0 x1 : Value) : checkTypeCall "zip" ⟨[x0, x1], []⟩ = pure () := by kernel_rfl
theorem zs_chk2 (x0 x1 : Value) : checkBuiltinCall "zip.__new__" ⟨[.type "zip", x0, x1], []⟩ = pure () := by kernel_rfl
theorem zs_ini2 (o x0 x1 : Value) : argsOk "object.__init__" ⟨[o, x0, x1], []⟩ := by
  unfold argsOk; rw [signature?_of (n := ['_', '_', 't', 'i', 'n', 'i', '_', '_']) (o := ['t', 'c', 'e', 'j', 'b', 'o']) (id := "object.__init__") (by kernel_rfl) PySem.F.owner_object]; kernel_rfl
theorem zs_call2 {p0 p1 : Addr} {u0 u1 : Array Value} {Q : Value → Shared → Prop} (a0 : s.heap.IsTuple p0 u0) (a1 : s.heap.IsTuple p1 u1)
    (hyp : ∀ h', ZSt h' s.heap.objs.size [p0, p1] 0 → (∀ c o, s.heap.get? c = some o → h'.get? c = some o) → Q (.ref (s.heap.objs.size + 2 + 2)) { s with heap := h' }) :
    wpAny (model P w) A (call (.type "zip") [.ref p0, .ref p1]) Q E s := by
  refine callType_new PySem.F.called_zip (by decide) (zs_typ2 _ _) (zs_chk2 _ _) (fun o => zs_ini2 o _ _) PySem.F.entry_zip_new (zs_new2 p0 p1 u0 u1) ⟨a0, a1, ?_⟩
  have n1 : (zn2_1 s.heap p0).objs.size = s.heap.objs.size + 1 := Heap.size_push ..
  have n2 : (zn2_2 s.heap p0 p1).objs.size = s.heap.objs.size + 2 := by rw [Heap.size_push, n1]
  have n3 : (zt2 s.heap p0 p1).objs.size = s.heap.objs.size + 3 := by rw [Heap.size_push, n2]
  have n4 : (zo2 s.heap p0 p1).objs.size = s.heap.objs.size + 4 := by rw [Heap.size_push, n3]
  have k4 : ∀ c o, (zz2 s.heap p0 p1).get? c = some o → (zz2 s.heap p0 p1).get? c = some o := fun _ _ e => e
  have k3 : ∀ c o, (zo2 s.heap p0 p1).get? c = some o → (zz2 s.heap p0 p1).get? c = some o := fun c o x => k4 c o (Heap.get?_push_of_some _ x)
  have k2 : ∀ c o, (zt2 s.heap p0 p1).get? c = some o → (zz2 s.heap p0 p1).get? c = some o := fun c o x => k3 c o (Heap.get?_push_of_some _ x)
  have k1 : ∀ c o, (zn2_2 s.heap p0 p1).get? c = some o → (zz2 s.heap p0 p1).get? c = some o := fun c o x => k2 c o (Heap.get?_push_of_some _ x)
  have k0 : ∀ c o, (zn2_1 s.heap p0).get? c = some o → (zz2 s.heap p0 p1).get? c = some o := fun c o x => k1 c o (Heap.get?_push_of_some _ x)
  have kk : ∀ c o, s.heap.get? c = some o → (zz2 s.heap p0 p1).get? c = some o := fun c o x => k0 c o (Heap.get?_push_of_some _ x)
  have g0 : (zz2 s.heap p0 p1).get? s.heap.objs.size = some ⟨.type "tuple_iterator", none, .fields #[.ref p0, .int 0 0], #[]⟩ := k0 _ _ (Heap.get?_push_size _ rfl)
  have g1 : (zz2 s.heap p0 p1).get? (zn2_1 s.heap p0).objs.size = some ⟨.type "tuple_iterator", none, .fields #[.ref p1, .int 0 0], #[]⟩ := k1 _ _ (Heap.get?_push_size _ rfl)
  rw [n1] at g1
  have gt : (zz2 s.heap p0 p1).get? (zn2_2 s.heap p0 p1).objs.size = some ⟨.type "tuple", none, .seq #[.ref s.heap.objs.size, .ref (zn2_1 s.heap p0).objs.size] 0, #[]⟩ := k2 _ _ (Heap.get?_push_size _ rfl)
  have go : (zz2 s.heap p0 p1).get? (zt2 s.heap p0 p1).objs.size = some ⟨.type "tuple", none, .seq #[.none, .none] 0, #[]⟩ := k3 _ _ (Heap.get?_push_size _ rfl)
  have gz : (zz2 s.heap p0 p1).get? (zo2 s.heap p0 p1).objs.size = some ⟨.type "zip", none, .fields #[.none, .bool false, .bool false, .ref (zn2_2 s.heap p0 p1).objs.size, .ref (zt2 s.heap p0 p1).objs.size], #[]⟩ := Heap.get?_push_size _ rfl
  rw [n1, n2] at gt
  rw [n3] at go
  rw [n2, n3, n4] at gz
  show _ ∧ _
  rw [n4]
  refine ⟨⟨_, gz, rfl⟩, hyp _ ⟨.none, false, #[.none, .none], ⟨gz, gt, go, rfl, fun m a e => ?_⟩, .inl rfl⟩ kk⟩
  rw [if_neg (Nat.not_lt_zero m)]
  match m, e with
  | 0, e => cases e; exact ⟨_, g0, rfl, rfl⟩
  | 1, e => cases e; exact ⟨_, g1, rfl, rfl⟩
  | m + 2, e => simp at e
abbrev zn3_1 (h : Heap) (p0 : Addr) : Heap := h.push ⟨.type "tuple_iterator", none, .fields #[.ref p0, .int 0 0], #[]⟩
abbrev zn3_2 (h : Heap) (p0 p1 : Addr) : Heap := (zn3_1 h p0).push ⟨.type "tuple_iterator", none, .fields #[.ref p1, .int 0 0], #[]⟩
abbrev zn3_3 (h : Heap) (p0 p1 p2 : Addr) : Heap := (zn3_2 h p0 p1).push ⟨.type "tuple_iterator", none, .fields #[.ref p2, .int 0 0], #[]⟩
abbrev zt3 (h : Heap) (p0 p1 p2 : Addr) : Heap := (zn3_3 h p0 p1 p2).push ⟨.type "tuple", none, .seq #[.ref h.objs.size, .ref (zn3_1 h p0).objs.size, .ref (zn3_2 h p0 p1).objs.size] 0, #[]⟩
abbrev zo3 (h : Heap) (p0 p1 p2 : Addr) : Heap := (zt3 h p0 p1 p2).push ⟨.type "tuple", none, .seq #[.none, .none, .none] 0, #[]⟩
abbrev zz3 (h : Heap) (p0 p1 p2 : Addr) : Heap := (zo3 h p0 p1 p2).push ⟨.type "zip", none, .fields #[.none, .bool false, .bool false, .ref (zn3_3 h p0 p1 p2).objs.size, .ref (zt3 h p0 p1 p2).objs.size], #[]⟩
theorem zs_new3 (p0 p1 p2 : Addr) (u0 u1 u2 : Array Value) : Meets (Builtin.«zip.__new__» ⟨[.type "zip", .ref p0, .ref p1, .ref p2], []⟩)
    (fun _ R s => s.heap.IsTuple p0 u0 ∧ s.heap.IsTuple p1 u1 ∧ s.heap.IsTuple p2 u2 ∧ R (.ok (.ret (.ref (zo3 s.heap p0 p1 p2).objs.size))) { s with heap := zz3 s.heap p0 p1 p2 }) :=
  .of_wp fun P w A R s hyp => by
    obtain ⟨hp, g, d, tk, os⟩ := s
    obtain ⟨a0, a1, a2, hyp⟩ := hyp
    have hsub := sub_zip
    have b0 : Heap.IsTuple (Shared.heap ⟨hp, g, d, tk, os⟩) p0 u0 := a0
    have b1 : Heap.IsTuple (Shared.heap ⟨(zn3_1 hp p0), g, d, tk, os⟩) p1 u1 := (Heap.IsTuple.push a1 _)
    have b2 : Heap.IsTuple (Shared.heap ⟨(zn3_2 hp p0 p1), g, d, tk, os⟩) p2 u2 := (Heap.IsTuple.push (Heap.IsTuple.push a2 _) _)
    wp_walk using wpAny_pyIter_tuple b0, wpAny_pyIter_tuple b1, wpAny_pyIter_tuple b2
    exact ⟨_, rfl, hyp⟩
theorem zs_typ3 (x0 x1 x2 : Value) : checkTypeCall "zip" ⟨[x0, x1, x2], []⟩ = pure () := by kernel_rfl
theorem zs_chk3 (x0 x1 x2 : Value) : checkBuiltinCall "zip.__new__" ⟨[.type "zip", x0, x1, x2], []⟩ = pure () := by kernel_rfl
theorem zs_ini3 (o x0 x1 x2 : Value) : argsOk "object.__init__" ⟨[o, x0, x1, x2], []⟩ := by
  unfold argsOk; rw [signature?_of (n := ['_', '_', 't', 'i', 'n', 'i', '_', '_']) (o := ['t', 'c', 'e', 'j', 'b', 'o']) (id := "object.__init__") (by kernel_rfl) PySem.F.owner_object]; kernel_rfl
theorem zs_call3 {p0 p1 p2 : Addr} {u0 u1 u2 : Array Value} {Q : Value → Shared → Prop} (a0 : s.heap.IsTuple p0 u0) (a1 : s.heap.IsTuple p1 u1) (a2 : s.heap.IsTuple p2 u2)
    (hyp : ∀ h', ZSt h' s.heap.objs.size [p0, p1, p2] 0 → (∀ c o, s.heap.get? c = some o → h'.get? c = some o) → Q (.ref (s.heap.objs.size + 3 + 2)) { s with heap := h' }) :
    wpAny (model P w) A (call (.type "zip") [.ref p0, .ref p1, .ref p2]) Q E s := by
  refine callType_new PySem.F.called_zip (by decide) (zs_typ3 _ _ _) (zs_chk3 _ _ _) (fun o => zs_ini3 o _ _ _) PySem.F.entry_zip_new (zs_new3 p0 p1 p2 u0 u1 u2) ⟨a0, a1, a2, ?_⟩
  have n1 : (zn3_1 s.heap p0).objs.size = s.heap.objs.size + 1 := Heap.size_push ..
  have n2 : (zn3_2 s.heap p0 p1).objs.size = s.heap.objs.size + 2 := by rw [Heap.size_push, n1]
  have n3 : (zn3_3 s.heap p0 p1 p2).objs.size = s.heap.objs.size + 3 := by rw [Heap.size_push, n2]
  have n4 : (zt3 s.heap p0 p1 p2).objs.size = s.heap.objs.size + 4 := by rw [Heap.size_push, n3]
  have n5 : (zo3 s.heap p0 p1 p2).objs.size = s.heap.objs.size + 5 := by rw [Heap.size_push, n4]
  have k5 : ∀ c o, (zz3 s.heap p0 p1 p2).get? c = some o → (zz3 s.heap p0 p1 p2).get? c = some o := fun _ _ e => e
  have k4 : ∀ c o, (zo3 s.heap p0 p1 p2).get? c = some o → (zz3 s.heap p0 p1 p2).get? c = some o := fun c o x => k5 c o (Heap.get?_push_of_some _ x)
  have k3 : ∀ c o, (zt3 s.heap p0 p1 p2).get? c = some o → (zz3 s.heap p0 p1 p2).get? c = some o := fun c o x => k4 c o (Heap.get?_push_of_some _ x)
  have k2 : ∀ c o, (zn3_3 s.heap p0 p1 p2).get? c = some o → (zz3 s.heap p0 p1 p2).get? c = some o := fun c o x => k3 c o (Heap.get?_push_of_some _ x)
  have k1 : ∀ c o, (zn3_2 s.heap p0 p1).get? c = some o → (zz3 s.heap p0 p1 p2).get? c = some o := fun c o x => k2 c o (Heap.get?_push_of_some _ x)
  have k0 : ∀ c o, (zn3_1 s.heap p0).get? c = some o → (zz3 s.heap p0 p1 p2).get? c = some o := fun c o x => k1 c o (Heap.get?_push_of_some _ x)
  have kk : ∀ c o, s.heap.get? c = some o → (zz3 s.heap p0 p1 p2).get? c = some o := fun c o x => k0 c o (Heap.get?_push_of_some _ x)
  have g0 : (zz3 s.heap p0 p1 p2).get? s.heap.objs.size = some ⟨.type "tuple_iterator", none, .fields #[.ref p0, .int 0 0], #[]⟩ := k0 _ _ (Heap.get?_push_size _ rfl)
  have g1 : (zz3 s.heap p0 p1 p2).get? (zn3_1 s.heap p0).objs.size = some ⟨.type "tuple_iterator", none, .fields #[.ref p1, .int 0 0], #[]⟩ := k1 _ _ (Heap.get?_push_size _ rfl)
  rw [n1] at g1
  have g2 : (zz3 s.heap p0 p1 p2).get? (zn3_2 s.heap p0 p1).objs.size = some ⟨.type "tuple_iterator", none, .fields #[.ref p2, .int 0 0], #[]⟩ := k2 _ _ (Heap.get?_push_size _ rfl)
  rw [n2] at g2
  have gt : (zz3 s.heap p0 p1 p2).get? (zn3_3 s.heap p0 p1 p2).objs.size = some ⟨.type "tuple", none, .seq #[.ref s.heap.objs.size, .ref (zn3_1 s.heap p0).objs.size, .ref (zn3_2 s.heap p0 p1).objs.size] 0, #[]⟩ := k3 _ _ (Heap.get?_push_size _ rfl)
  have go : (zz3 s.heap p0 p1 p2).get? (zt3 s.heap p0 p1 p2).objs.size = some ⟨.type "tuple", none, .seq #[.none, .none, .none] 0, #[]⟩ := k4 _ _ (Heap.get?_push_size _ rfl)
  have gz : (zz3 s.heap p0 p1 p2).get? (zo3 s.heap p0 p1 p2).objs.size = some ⟨.type "zip", none, .fields #[.none, .bool false, .bool false, .ref (zn3_3 s.heap p0 p1 p2).objs.size, .ref (zt3 s.heap p0 p1 p2).objs.size], #[]⟩ := Heap.get?_push_size _ rfl
  rw [n1, n2, n3] at gt
  rw [n4] at go
  rw [n3, n4, n5] at gz
  show _ ∧ _
  rw [n5]
  refine ⟨⟨_, gz, rfl⟩, hyp _ ⟨.none, false, #[.none, .none, .none], ⟨gz, gt, go, rfl, fun m a e => ?_⟩, .inl rfl⟩ kk⟩
  rw [if_neg (Nat.not_lt_zero m)]
  match m, e with
  | 0, e => cases e; exact ⟨_, g0, rfl, rfl⟩
  | 1, e => cases e; exact ⟨_, g1, rfl, rfl⟩
  | 2, e => cases e; exact ⟨_, g2, rfl, rfl⟩
  | m + 3, e => simp at e
abbrev zn4_1 (h : Heap) (p0 : Addr) : Heap := h.push ⟨.type "tuple_iterator", none, .fields #[.ref p0, .int 0 0], #[]⟩
abbrev zn4_2 (h : Heap) (p0 p1 : Addr) : Heap := (zn4_1 h p0).push ⟨.type "tuple_iterator", none, .fields #[.ref p1, .int 0 0], #[]⟩
abbrev zn4_3 (h : Heap) (p0 p1 p2 : Addr) : Heap := (zn4_2 h p0 p1).push ⟨.type "tuple_iterator", none, .fields #[.ref p2, .int 0 0], #[]⟩
abbrev zn4_4 (h : Heap) (p0 p1 p2 p3 : Addr) : Heap := (zn4_3 h p0 p1 p2).push ⟨.type "tuple_iterator", none, .fields #[.ref p3, .int 0 0], #[]⟩
abbrev zt4 (h : Heap) (p0 p1 p2 p3 : Addr) : Heap := (zn4_4 h p0 p1 p2 p3).push ⟨.type "tuple", none, .seq #[.ref h.objs.size, .ref (zn4_1 h p0).objs.size, .ref (zn4_2 h p0 p1).objs.size, .ref (zn4_3 h p0 p1 p2).objs.size] 0, #[]⟩
abbrev zo4 (h : Heap) (p0 p1 p2 p3 : Addr) : Heap := (zt4 h p0 p1 p2 p3).push ⟨.type "tuple", none, .seq #[.none, .none, .none, .none] 0, #[]⟩
abbrev zz4 (h : Heap) (p0 p1 p2 p3 : Addr) : Heap := (zo4 h p0 p1 p2 p3).push ⟨.type "zip", none, .fields #[.none, .bool false, .bool false, .ref (zn4_4 h p0 p1 p2 p3).objs.size, .ref (zt4 h p0 p1 p2 p3).objs.size], #[]⟩
theorem zs_new4 (p0 p1 p2 p3 : Addr) (u0 u1 u2 u3 : Array Value) : Meets (Builtin.«zip.__new__» ⟨[.type "zip", .ref p0, .ref p1, .ref p2, .ref p3], []⟩)
    (fun _ R s => s.heap.IsTuple p0 u0 ∧ s.heap.IsTuple p1 u1 ∧ s.heap.IsTuple p2 u2 ∧ s.heap.IsTuple p3 u3 ∧ R (.ok (.ret (.ref (zo4 s.heap p0 p1 p2 p3).objs.size))) { s with heap := zz4 s.heap p0 p1 p2 p3 }) :=
  .of_wp fun P w A R s hyp => by
    obtain ⟨hp, g, d, tk, os⟩ := s
    obtain ⟨a0, a1, a2, a3, hyp⟩ := hyp
    have hsub := sub_zip
    have b0 : Heap.IsTuple (Shared.heap ⟨hp, g, d, tk, os⟩) p0 u0 := a0
    have b1 : Heap.IsTuple (Shared.heap ⟨(zn4_1 hp p0), g, d, tk, os⟩) p1 u1 := (Heap.IsTuple.push a1 _)
    have b2 : Heap.IsTuple (Shared.heap ⟨(zn4_2 hp p0 p1), g, d, tk, os⟩) p2 u2 := (Heap.IsTuple.push (Heap.IsTuple.push a2 _) _)
    have b3 : Heap.IsTuple (Shared.heap ⟨(zn4_3 hp p0 p1 p2), g, d, tk, os⟩) p3 u3 := (Heap.IsTuple.push (Heap.IsTuple.push (Heap.IsTuple.push a3 _) _) _)
    wp_walk using wpAny_pyIter_tuple b0, wpAny_pyIter_tuple b1, wpAny_pyIter_tuple b2, wpAny_pyIter_tuple b3
    exact ⟨_, rfl, hyp⟩
theorem zs_typ4 (x0 x1 x2 x3 : Value) : checkTypeCall "zip" ⟨[x0, x1, x2, x3], []⟩ = pure () := by kernel_rfl
theorem zs_chk4 (x0 x1 x2 x3 : Value) : checkBuiltinCall "zip.__new__" ⟨[.type "zip", x0, x1, x2, x3], []⟩ = pure () := by kernel_rfl
theorem zs_ini4 (o x0 x1 x2 x3 : Value) : argsOk "object.__init__" ⟨[o, x0, x1, x2, x3], []⟩ := by
  unfold argsOk; rw [signature?_of (n := ['_', '_', 't', 'i', 'n', 'i', '_', '_']) (o := ['t', 'c', 'e', 'j', 'b', 'o']) (id := "object.__init__") (by kernel_rfl) PySem.F.owner_object]; kernel_rfl
theorem zs_call4 {p0 p1 p2 p3 : Addr} {u0 u1 u2 u3 : Array Value} {Q : Value → Shared → Prop} (a0 : s.heap.IsTuple p0 u0) (a1 : s.heap.IsTuple p1 u1) (a2 : s.heap.IsTuple p2 u2) (a3 : s.heap.IsTuple p3 u3)
    (hyp : ∀ h', ZSt h' s.heap.objs.size [p0, p1, p2, p3] 0 → (∀ c o, s.heap.get? c = some o → h'.get? c = some o) → Q (.ref (s.heap.objs.size + 4 + 2)) { s with heap := h' }) :
    wpAny (model P w) A (call (.type "zip") [.ref p0, .ref p1, .ref p2, .ref p3]) Q E s := by
  refine callType_new PySem.F.called_zip (by decide) (zs_typ4 _ _ _ _) (zs_chk4 _ _ _ _) (fun o => zs_ini4 o _ _ _ _) PySem.F.entry_zip_new (zs_new4 p0 p1 p2 p3 u0 u1 u2 u3) ⟨a0, a1, a2, a3, ?_⟩
  have n1 : (zn4_1 s.heap p0).objs.size = s.heap.objs.size + 1 := Heap.size_push ..
  have n2 : (zn4_2 s.heap p0 p1).objs.size = s.heap.objs.size + 2 := by rw [Heap.size_push, n1]
  have n3 : (zn4_3 s.heap p0 p1 p2).objs.size = s.heap.objs.size + 3 := by rw [Heap.size_push, n2]
  have n4 : (zn4_4 s.heap p0 p1 p2 p3).objs.size = s.heap.objs.size + 4 := by rw [Heap.size_push, n3]
  have n5 : (zt4 s.heap p0 p1 p2 p3).objs.size = s.heap.objs.size + 5 := by rw [Heap.size_push, n4]
  have n6 : (zo4 s.heap p0 p1 p2 p3).objs.size = s.heap.objs.size + 6 := by rw [Heap.size_push, n5]
  have k6 : ∀ c o, (zz4 s.heap p0 p1 p2 p3).get? c = some o → (zz4 s.heap p0 p1 p2 p3).get? c = some o := fun _ _ e => e
  have k5 : ∀ c o, (zo4 s.heap p0 p1 p2 p3).get? c = some o → (zz4 s.heap p0 p1 p2 p3).get? c = some o := fun c o x => k6 c o (Heap.get?_push_of_some _ x)
  have k4 : ∀ c o, (zt4 s.heap p0 p1 p2 p3).get? c = some o → (zz4 s.heap p0 p1 p2 p3).get? c = some o := fun c o x => k5 c o (Heap.get?_push_of_some _ x)
  have k3 : ∀ c o, (zn4_4 s.heap p0 p1 p2 p3).get? c = some o → (zz4 s.heap p0 p1 p2 p3).get? c = some o := fun c o x => k4 c o (Heap.get?_push_of_some _ x)
  have k2 : ∀ c o, (zn4_3 s.heap p0 p1 p2).get? c = some o → (zz4 s.heap p0 p1 p2 p3).get? c = some o := fun c o x => k3 c o (Heap.get?_push_of_some _ x)
  have k1 : ∀ c o, (zn4_2 s.heap p0 p1).get? c = some o → (zz4 s.heap p0 p1 p2 p3).get? c = some o := fun c o x => k2 c o (Heap.get?_push_of_some _ x)
  have k0 : ∀ c o, (zn4_1 s.heap p0).get? c = some o → (zz4 s.heap p0 p1 p2 p3).get? c = some o := fun c o x => k1 c o (Heap.get?_push_of_some _ x)
  have kk : ∀ c o, s.heap.get? c = some o → (zz4 s.heap p0 p1 p2 p3).get? c = some o := fun c o x => k0 c o (Heap.get?_push_of_some _ x)
  have g0 : (zz4 s.heap p0 p1 p2 p3).get? s.heap.objs.size = some ⟨.type "tuple_iterator", none, .fields #[.ref p0, .int 0 0], #[]⟩ := k0 _ _ (Heap.get?_push_size _ rfl)
  have g1 : (zz4 s.heap p0 p1 p2 p3).get? (zn4_1 s.heap p0).objs.size = some ⟨.type "tuple_iterator", none, .fields #[.ref p1, .int 0 0], #[]⟩ := k1 _ _ (Heap.get?_push_size _ rfl)
  rw [n1] at g1
  have g2 : (zz4 s.heap p0 p1 p2 p3).get? (zn4_2 s.heap p0 p1).objs.size = some ⟨.type "tuple_iterator", none, .fields #[.ref p2, .int 0 0], #[]⟩ := k2 _ _ (Heap.get?_push_size _ rfl)
  rw [n2] at g2
  have g3 : (zz4 s.heap p0 p1 p2 p3).get? (zn4_3 s.heap p0 p1 p2).objs.size = some ⟨.type "tuple_iterator", none, .fields #[.ref p3, .int 0 0], #[]⟩ := k3 _ _ (Heap.get?_push_size _ rfl)
  rw [n3] at g3
  have gt : (zz4 s.heap p0 p1 p2 p3).get? (zn4_4 s.heap p0 p1 p2 p3).objs.size = some ⟨.type "tuple", none, .seq #[.ref s.heap.objs.size, .ref (zn4_1 s.heap p0).objs.size, .ref (zn4_2 s.heap p0 p1).objs.size, .ref (zn4_3 s.heap p0 p1 p2).objs.size] 0, #[]⟩ := k4 _ _ (Heap.get?_push_size _ rfl)
  have go : (zz4 s.heap p0 p1 p2 p3).get? (zt4 s.heap p0 p1 p2 p3).objs.size = some ⟨.type "tuple", none, .seq #[.none, .none, .none, .none] 0, #[]⟩ := k5 _ _ (Heap.get?_push_size _ rfl)
  have gz : (zz4 s.heap p0 p1 p2 p3).get? (zo4 s.heap p0 p1 p2 p3).objs.size = some ⟨.type "zip", none, .fields #[.none, .bool false, .bool false, .ref (zn4_4 s.heap p0 p1 p2 p3).objs.size, .ref (zt4 s.heap p0 p1 p2 p3).objs.size], #[]⟩ := Heap.get?_push_size _ rfl
  rw [n1, n2, n3, n4] at gt
  rw [n5] at go
  rw [n4, n5, n6] at gz
  show _ ∧ _
  rw [n6]
  refine ⟨⟨_, gz, rfl⟩, hyp _ ⟨.none, false, #[.none, .none, .none, .none], ⟨gz, gt, go, rfl, fun m a e => ?_⟩, .inl rfl⟩ kk⟩
  rw [if_neg (Nat.not_lt_zero m)]
  match m, e with
  | 0, e => cases e; exact ⟨_, g0, rfl, rfl⟩
  | 1, e => cases e; exact ⟨_, g1, rfl, rfl⟩
  | 2, e => cases e; exact ⟨_, g2, rfl, rfl⟩
  | 3, e => cases e; exact ⟨_, g3, rfl, rfl⟩
  | m + 4, e => simp at e
end
end EV
end
section
set_option Elab.async false
set_option linter.all false
set_option maxRecDepth 100000
set_option autoImplicit false
set_option maxHeartbeats 1000000
/-! EV36: for column in zip(*rows) -/
namespace EV
open PySem PySem.Spec PyProof.Rows L2
section
variable {P : Program} {w : World} {A : Around} {E : Value → Shared → Prop} {s : Shared}
theorem zs_call {as : List Addr} {Q : Value → Shared → Prop} (h0 : 0 < as.length) (h4 : as.length ≤ 4) (ht : ∀ a ∈ as, ∃ us : Array Value, s.heap.IsTuple a us)
    (hyp : ∀ h', ZSt h' s.heap.objs.size as 0 → (∀ c o, s.heap.get? c = some o → h'.get? c = some o) → Q (.ref (s.heap.objs.size + as.length + 2)) { s with heap := h' }) :
    wpAny (model P w) A (call (.type "zip") (as.map .ref)) Q E s := by
  match as, h0, h4, ht, hyp with
  | [a], _, _, ht, hyp =>
    obtain ⟨u0, t0⟩ := ht a (by simp)
    exact zs_call1 t0 hyp
  | [a, b], _, _, ht, hyp =>
    obtain ⟨u0, t0⟩ := ht a (by simp)
    obtain ⟨u1, t1⟩ := ht b (by simp)
    exact zs_call2 t0 t1 hyp
  | [a, b, c], _, _, ht, hyp =>
    obtain ⟨u0, t0⟩ := ht a (by simp)
    obtain ⟨u1, t1⟩ := ht b (by simp)
    obtain ⟨u2, t2⟩ := ht c (by simp)
    exact zs_call3 t0 t1 t2 hyp
  | [a, b, c, d], _, _, ht, hyp =>
    obtain ⟨u0, t0⟩ := ht a (by simp)
    obtain ⟨u1, t1⟩ := ht b (by simp)
    obtain ⟨u2, t2⟩ := ht c (by simp)
    obtain ⟨u3, t3⟩ := ht d (by simp)
    exact zs_call4 t0 t1 t2 t3 hyp
  | a :: b :: c :: d :: e :: r, _, h4, _, _ => simp at h4
theorem callWith_typeS {T : String} {e : Expr} {p pos : Pos} {env : PySem.Env} {Q : Value → Shared → Prop}
    (h : wpAny (model P w) A (eval e env) (fun v s₁ => PySem.W.StarOf (model P w) A E v (fun vs s₂ => wpAny (model P w) A (call (.type T) vs) Q E s₂) s₁) E s) (he : starEach [.Starred e p] env = [(true, eval e env)]) :
    wpAny (model P w) A (callWith pos (.type T) [] (backTo pos (starEach [.Starred e p] env)) []) Q E s := by
  rw [he]
  refine PySem.W.ks_call (P := fun _ => True) rfl (fun h _ => ⟨.machine, .inr (.inl rfl), PySem.W.Looks.of_pure rfl⟩) (PySem.W.ks_lone (wpAny_mono h (fun v s1 h1 => ?_) fun _ _ x => x))
  unfold PySem.W.StarOf at h1 ⊢
  refine wpAny_mono h1 (fun b s2 h2 => ⟨h2.1, wpAny_mono h2.2 (fun vs s3 h3 => ⟨trivial, h3⟩) fun _ _ x => x⟩) fun _ _ x => x
end
/-- the tuples at as, item by item in new tuples -/
def ItzS (K : PySem.W.Frag) (as : List Addr) : It :=
  ⟨fun i H => ∀ a ∈ as, ∃ (xs : List V) (x : V), SqT K H a xs ∧ xs[i]? = some x,
    fun i H v H' => ∃ t ys, v = .ref t ∧ H t = none ∧ H' = upd H t (.tup ys) ∧ ys.length = as.length ∧ ∀ (j : Nat) (a : Addr), as[j]? = some a → ∀ xs, SqT K H a xs → xs[i]? = ys[j]?,
    fun i H => ∀ a ∈ as, ∃ xs : List V, SqT K H a xs ∧ xs.length ≤ i⟩
theorem zs_row {X : Cx} {pins : List (Addr × Obj)} {σ : Sl} {H : Hp} {s : Shared} (I : Inv X pins σ H s) (i : Nat) : ∀ as : List Addr, (∀ a ∈ as, ∃ (xs : List V) (x : V), SqT X.K H a xs ∧ xs[i]? = some x) →
    ∃ (ys : List Value) (vs : List V), Vals vs ys ∧ ys.length = as.length ∧ vs.length = as.length ∧ ∀ (j : Nat) (a : Addr), as[j]? = some a → (∃ items : Array Value, s.heap.IsTuple a items ∧ items[i]? = ys[j]?) ∧ ∀ xs, SqT X.K H a xs → xs[i]? = vs[j]?
  | [], _ => ⟨[], [], .nil, rfl, rfl, fun j a e => by simp at e⟩
  | a :: as, h => by
    obtain ⟨ys, vs, r, l1, l2, hg⟩ := zs_row I i as fun b hb => h b (List.mem_cons_of_mem _ hb)
    obtain ⟨xs, x, q, e⟩ := h a (List.mem_cons_self ..)
    obtain ⟨its, rv, p, _⟩ := I.tuple q
    obtain ⟨u, hu, ru⟩ := rv.get e
    refine ⟨u :: ys, x :: vs, .cons ru r, by simp [l1], by simp [l2], fun j b hj => ?_⟩
    cases j with
    | zero =>
      cases hj
      exact ⟨⟨its.toArray, p, by simpa using hu⟩, fun zs hz => by rw [I.tuple_inj hz q]; exact e⟩
    | succ j => exact hg j b (by simpa using hj)
theorem tri4 {m n : Nat} (h : m < n + 3) : m < n ∨ m = n ∨ m = n + 1 ∨ m = n + 2 := by omega
theorem zs_turn {P : Program} {w : World} {K : PySem.W.Frag} {x : Str} {p : Pos} {as : List Addr} {B : Nat} (h0 : 0 < as.length) (h4 : as.length ≤ 4) (hB : ∀ a ∈ as, a < B) :
    Turn P w K (.Name x p) (ItzS K as) ((List.range (as.length + 3)).map fun j => B + j) (B + as.length + 2) (fun i h => ZSt h B as i) where
  mem := List.mem_map.mpr ⟨as.length + 2, List.mem_range.mpr (by omega), rfl⟩
  obj := fun i h st c hc => by
    obtain ⟨f0, fl, us, st, _⟩ := st
    obtain ⟨m, hm, rfl⟩ := List.mem_map.mp hc
    have hm := List.mem_range.mp hm
    rcases tri4 hm with c1 | c2 | c2 | c2
    · obtain ⟨o, e, _, d⟩ := st.it m _ (List.getElem?_eq_getElem c1)
      exact ⟨o, e, fun v q => by rw [d] at q; cases q⟩
    · subst c2; exact ⟨_, st.ti, fun v q => nomatch q⟩
    · subst c2; exact ⟨_, st.to, fun v q => nomatch q⟩
    · subst c2; exact ⟨_, st.z, fun v q => nomatch q⟩
  keep := fun i h h' st k => by
    obtain ⟨f0, fl, us, st, hf⟩ := st
    exact ⟨f0, fl, us, st.fix fun c o h1 h2 => k c (List.mem_map.mpr ⟨c - B, List.mem_range.mpr (by omega), by show B + (c - B) = c; omega⟩) o, hf⟩
  item := by
    intro X e1 e2 e3 hc i pins s σ H E I hf st hg
    subst e1 e2 e3
    obtain ⟨ys, vs, rv, l1, l2, hrow⟩ := zs_row I i as hg
    have hzl : B + as.length + 2 < s.heap.objs.size := by
      obtain ⟨_, _, _, st, _⟩ := st
      exact Heap.lt_size st.z
    have hnot : ∀ c, c ∉ ((List.range (as.length + 3)).map fun j => B + j) → c < B ∨ B + as.length + 3 ≤ c := fun c hc => by
      rcases Nat.lt_or_ge c B with q | q
      · exact .inl q
      · rcases Nat.lt_or_ge c (B + as.length + 3) with q2 | q2
        · exact absurd (List.mem_map.mpr ⟨c - B, List.mem_range.mpr (by omega), by show B + (c - B) = c; omega⟩) hc
        · exact .inr q2
    refine zs_pyNext_item h0 (by omega) l1 st (fun j a e => ⟨hB a (List.mem_of_getElem? e), (hrow j a e).1⟩) fun h' st' n5 hk => ⟨_, rfl, wpAny_pure ?_⟩
    have new : ObjOk X.prog X.w (upd H s.heap.objs.size (.tup vs)) h' s.heap.objs.size (.tup vs) :=
      ⟨by rw [l2, sizeLine_eq]; omega, ys, rv, ⟨_, n5, rfl, _, rfl⟩⟩
    have I1 : Inv X pins σ (upd H s.heap.objs.size (.tup vs)) { s with heap := h' } := I.turnedNew (t' := s.toks) (fun c o hb q => hk c o (hnot c hb) q) hf (Nat.le_refl _) new
    refine ⟨.ref s.heap.objs.size, _, I1, rfl, ⟨_, vs, rfl, I.hok.fresh (Nat.le_refl _), rfl, l2, fun j a e => (hrow j a e).2⟩, st', fun c hcm => ?_⟩
    obtain ⟨m, hm, rfl⟩ := List.mem_map.mp hcm
    have hm := List.mem_range.mp hm
    have hlt : B + m < s.heap.objs.size := Nat.lt_of_le_of_lt (show B + m ≤ B + as.length + 2 by omega) hzl
    rw [upd_ne (Nat.ne_of_lt hlt)]
    exact (hf _ hcm).1
  done := by
    intro X e1 e2 e3 hc i pins s σ H E I hf st hg
    subst e1 e2 e3
    have hnot : ∀ c, c ∉ ((List.range (as.length + 3)).map fun j => B + j) → c < B ∨ B + as.length + 3 ≤ c := fun c hc => by
      rcases Nat.lt_or_ge c B with q | q
      · exact .inl q
      · rcases Nat.lt_or_ge c (B + as.length + 3) with q2 | q2
        · exact absurd (List.mem_map.mpr ⟨c - B, List.mem_range.mpr (by omega), by show B + (c - B) = c; omega⟩) hc
        · exact .inr q2
    have hh : X.A.in1.handled = none := I.ok.hd hc
    refine zs_pyNext_end hh h0 st (fun a e => ?_) fun h' hk => ⟨rfl, I.turnedL (t' := s.toks) (fun c o hb q => hk c o (hnot c hb) q) hf⟩
    have ha := List.mem_of_getElem? e
    obtain ⟨xs, q, hl⟩ := hg a ha
    obtain ⟨its, rv, p, _⟩ := I.tuple q
    have := rv.length
    exact ⟨hB a ha, its.toArray, p, by simp; omega⟩
  self := fun A i s Q E st hyp => by
    obtain ⟨f0, fl, us, st, _⟩ := st
    have hT : s.TypeIs (.ref (B + as.length + 2)) "zip" := ⟨_, st.z, rfl⟩
    refine wpAny_pyIter_slot hT PySem.F.slot_zip_iter (wpAny_call_entry PySem.F.slot_zip_iter hT PySem.F.entry_zip_iter ?_ (PySem.F.args_zip_iter_1 _))
    show wpAny _ _ (ret (.ref (B + as.length + 2))) _ _ s
    exact wpAny_pure ⟨_, rfl, "zip", _, hT, PySem.F.slot_zip_next.lookup, hyp⟩
def iZipS (K : PySem.W.Frag) (te : TE) : TI := fun σ H R => te σ H fun v H1 => ∃ a as, v = .ref a ∧ (SqT K H1 a (as.map V.ref) ∨ SqL K H1 a (as.map V.ref)) ∧ 0 < as.length ∧ as.length ≤ 4 ∧ (∀ b ∈ as, ∃ xs, SqT K H1 b xs) ∧ R (ItzS K as) H1
theorem vals_refs : ∀ {as : List Addr} {us : List Value}, Vals (as.map V.ref) us → us = as.map .ref
  | [], _, h => by cases h; rfl
  | a :: as, _, h => by
    cases h with
    | cons r t => cases r; rw [vals_refs t]; rfl
theorem pi_zipS {X : Cx} {e : Expr} {te : TE} {x : Str} {p pos tpos sp : Pos} (hg : Gl X "zip") (hm : X.mg "zip" = none) (he : PE X e te) (hs : starEach [.Starred e sp] X.env = [(true, eval e X.env)]) :
    PI X (.Name x tpos) (.Call (.Name "zip" p) [.Starred e sp] [] pos) (iZipS X.K te) := by
  refine ⟨fun pins s σ H R I hyp => ?_⟩
  refine Call_ (ld_blt I hg hm PyProof.Rows.boot_zip (callWith_typeS (thn (he.run pins s σ H _ I hyp) fun v s1 ⟨y, H1, I1, r1, q1⟩ => ?_) hs))
  obtain ⟨a, as, ey, hx, h0, h4, hb, q⟩ := q1
  subst ey
  obtain rfl : v = Value.ref a := r1
  refine StX.star_any I1 hx fun us s2 I2 rv => ?_
  rw [vals_refs rv]
  refine zs_call h0 h4 (fun b hb' => by
    obtain ⟨xs, q⟩ := hb b hb'
    obtain ⟨its, _, p, _⟩ := I2.tuple q
    exact ⟨_, p⟩) fun h' st hk => ?_
  have hB : ∀ b ∈ as, b < s2.heap.objs.size := fun b hb' => by
    obtain ⟨xs, q⟩ := hb b hb'
    obtain ⟨its, _, p, _⟩ := I2.tuple q
    exact p.lt
  have T := zs_turn (P := X.prog) (w := X.w) (K := X.K) (x := x) (p := tpos) h0 h4 hB
  refine T.self X.A 0 { s2 with heap := h' } _ _ st ?_
  refine ⟨_, _, _, _, H1, rfl, I2.kept (t' := s2.toks) hk, T, st, fun c hc => ?_, q⟩
  obtain ⟨m, hm, rfl⟩ := List.mem_map.mp hc
  exact I2.fpOk (Nat.le_add_right _ _) (I2.hok.fresh (Nat.le_add_right _ _))
/-! ### the reading -/
def zrowsOf : List D → Option (List (List D))
  | [] => some []
  | .tuple r :: ds => (zrowsOf ds).map (r :: ·)
  | _ => none
def colsOf (ds : List D) : Option (List D) := (zrowsOf ds).bind fun rs => if (decide (0 < rs.length) && decide (rs.length ≤ 4) && rs.all fun r => decide (r.length = (rs.headD []).length)) = true then some ((List.range (rs.headD []).length).map fun j => .tuple (rs.map fun r => r.getD j .none)) else none
theorem zrowsOf_eq : ∀ {ds : List D} {rs : List (List D)}, zrowsOf ds = some rs → ds = rs.map .tuple
  | [], rs, h => by cases h; rfl
  | d :: ds, rs, h => by
    cases d with
    | tuple r =>
      simp only [zrowsOf] at h
      cases e : zrowsOf ds with
      | none => rw [e] at h; cases h
      | some q => rw [e] at h; cases h; rw [zrowsOf_eq e]; rfl
    | _ => cases h
def semZipS (f : Sem) : SemI := fun s => (f s).bind fun r s1 => match ((r.get s1).bind seqOf).bind colsOf with
  | some cs => .ok cs s1
  | none => .bad
section
variable {K : PySem.W.Frag} {Φ H : Hp}
/-- the rows' addresses -/
theorem rows_at : ∀ {vs : List V} {rs : List (List D)}, RpA K Φ vs (rs.map .tuple) → ∃ as : List Addr, vs = as.map V.ref ∧ as.length = rs.length ∧ ∀ (j : Nat) (a : Addr), as[j]? = some a → ∃ (xs : List V) (r : List D), rs[j]? = some r ∧ Φ a = some (.tup xs) ∧ RpA K Φ xs r ∧ r.length ≤ sizeLine
  | _, [], h => by cases h; exact ⟨[], rfl, rfl, fun j a e => by simp at e⟩
  | _, r :: rs, h => by
    cases h with
    | cons t u =>
      obtain ⟨as, e1, e2, hg⟩ := rows_at u
      cases t with
      | tup sq ra z =>
        rename_i a xs
        refine ⟨a :: as, by rw [e1]; rfl, by simp [e2], fun j b hj => ?_⟩
        cases j with
        | zero => cases hj; exact ⟨xs, r, rfl, sq, ra, z⟩
        | succ j => exact hg j b (by simpa using hj)
theorem rpa_of : ∀ {vs : List V} {ds : List D}, vs.length = ds.length → (∀ (j : Nat) v d, vs[j]? = some v → ds[j]? = some d → Rp K Φ v d) → RpA K Φ vs ds
  | [], [], _, _ => .nil
  | v :: vs, d :: ds, hl, h => .cons (h 0 v d rfl rfl) (rpa_of (by simpa using hl) fun j v d e1 e2 => h (j + 1) v d (by simpa using e1) (by simpa using e2))
  | [], _ :: _, hl, _ => by cases hl
  | _ :: _, [], hl, _ => by cases hl
theorem walkS {as : List Addr} {rs : List (List D)} {m : Nat} (hl : as.length = rs.length) (h4 : as.length ≤ 4) (hm : ∀ r ∈ rs, r.length = m) (hz : m ≤ sizeLine)
    (hg : ∀ (j : Nat) (a : Addr), as[j]? = some a → ∃ (xs : List V) (r : List D), rs[j]? = some r ∧ Φ a = some (.tup xs) ∧ RpA K Φ xs r ∧ r.length ≤ sizeLine) :
    WalkD K (ItzS K as) Φ H ((List.range m).map fun j => .tuple (rs.map fun r => r.getD j .none)) :=
  ⟨by simpa using hz, fun Φ' H' l l' => by
    refine ⟨fun a ha => ?_, fun i d e => ?_⟩
    · obtain ⟨j, hj, rfl⟩ := List.mem_iff_getElem.mp ha
      obtain ⟨xs, r, e1, e2, e3, _⟩ := hg j _ (List.getElem?_eq_getElem hj)
      exact ⟨xs, .inl (.inl (l' _ _ (l _ _ e2))), by rw [e3.length, hm r (List.mem_of_getElem? e1)]; simp⟩
    · have hi : i < m := by
        have := (List.getElem?_eq_some_iff.mp e).1; simpa using this
      rw [List.getElem?_map, List.getElem?_range hi] at e
      cases e
      refine ⟨fun a ha => ?_, fun x H'' yl => ?_⟩
      · obtain ⟨j, hj, rfl⟩ := List.mem_iff_getElem.mp ha
        obtain ⟨xs, r, e1, e2, e3, _⟩ := hg j _ (List.getElem?_eq_getElem hj)
        have : i < xs.length := by rw [e3.length, hm r (List.mem_of_getElem? e1)]; exact hi
        exact ⟨xs, xs[i], .inl (.inl (l' _ _ (l _ _ e2))), List.getElem?_eq_getElem this⟩
      · obtain ⟨t, ys, rfl, hn, rfl, hly, hy⟩ := yl
        have rr : RpA K Φ' ys (rs.map fun r => r.getD i .none) := rpa_of (by rw [hly, hl, List.length_map]) fun j v d e1 e2 => by
          have hj : j < as.length := by have := (List.getElem?_eq_some_iff.mp e1).1; omega
          obtain ⟨xs, r, g1, g2, g3, _⟩ := hg j _ (List.getElem?_eq_getElem hj)
          have q := hy j _ (List.getElem?_eq_getElem hj) xs (.inl (.inl (l' _ _ (l _ _ g2))))
          rw [e1] at q
          rw [List.getElem?_map, g1] at e2
          cases e2
          have hir : i < r.length := by rw [hm r (List.mem_of_getElem? g1)]; exact hi
          obtain ⟨v', k1, k2⟩ := g3.get (List.getElem?_eq_getElem hir)
          rw [q] at k1; cases k1
          show Rp K Φ' v (r.getD i .none)
          rw [List.getD_eq_getElem?_getD, List.getElem?_eq_getElem hir]
          exact k2.mono l
        exact ⟨upd Φ' t (.tup ys), upd_le (l'.none hn), upd_le2 l', upd_le hn, fun b z => (upd_some z).elim (fun e => .inr (.inl (e ▸ hn))) .inl, .tup upd_same (rr.mono (upd_le (l'.none hn))) (by rw [List.length_map, ← hl, sizeLine_eq]; omega)⟩⟩
end
section
variable {T : Tx} {N : List Str} {sc : Scope} {cold top : Bool} {k : Nat}
theorem di_zipS {x : Str} {e : Expr} {p pos tpos sp : Pos} {f : Sem} (he : DE T N sc cold top k e f) (lf : Lasts f) (hg : sc.names.lookup ("zip" : Str) = some .globalImplicit) (hm : T.mg "zip" = none) :
    DI T N sc cold top k (.Name x tpos) (.Call (.Name "zip" p) [.Starred e sp] [] pos) (semZipS f) := fun X W F =>
  PIimp (pi_zipS (gl_of F hg) (by rw [F.em]; exact hm) (he X W F) rfl) fun σ H Q ⟨Φ, env, g0, o⟩ => ⟨Φ, env, g0, (Out.bindI o).mono fun v H1 ⟨r, env1, e1, Φ1, g1, r1, p1, o1⟩ => by
    have p2 := p1.plain fun b => RO.not (lf _ _ _ e1) b
    rw [F.eK]
    cases q1 : r.get env1 with
    | none => rw [q1] at o1; exact o1.elim
    | some d =>
      cases q2 : seqOf d with
      | none => simp only [q1, Option.bind, q2] at o1; exact o1.elim
      | some ds =>
        cases q3 : colsOf ds with
        | none => simp only [q1, Option.bind, q2, q3] at o1; exact o1.elim
        | some cs =>
          simp only [q1, Option.bind, q2, q3] at o1
          obtain ⟨a, vs, rfl, sq, ra, z⟩ := (r1.content g1 q1).seq g1.le q2
          unfold colsOf at q3
          cases q4 : zrowsOf ds with
          | none => rw [q4] at q3; cases q3
          | some rs =>
            rw [q4] at q3
            simp only [Option.bind] at q3
            split at q3
            · rename_i hc
              cases q3
              simp only [Bool.and_eq_true, decide_eq_true_eq, List.all_eq_true] at hc
              obtain ⟨⟨c1, c2⟩, c3⟩ := hc
              rw [zrowsOf_eq q4] at ra
              obtain ⟨as, rfl, hl, hrow⟩ := rows_at ra
              have hz : (rs.headD []).length ≤ sizeLine := by
                obtain ⟨xs, r, g1, g2, g3, g4⟩ := hrow 0 (as[0]'(by omega)) (List.getElem?_eq_getElem (by omega))
                rw [← c3 r (List.mem_of_getElem? g1)]; exact g4
              refine ⟨a, as, rfl, sq.symm, by omega, by omega, fun b hb => ?_, o1 _ Φ1 H1 g1 (walkS hl (by omega) c3 hz hrow) p2⟩
              obtain ⟨j, hj, rfl⟩ := List.mem_iff_getElem.mp hb
              obtain ⟨xs, r, g1', g2, _⟩ := hrow j _ (List.getElem?_eq_getElem hj)
              exact ⟨xs, .inl (.inl (g1.le _ _ g2))⟩
            · cases q3⟩
end
end EV
end
section
set_option Elab.async false
set_option linter.all false
set_option maxRecDepth 100000
set_option autoImplicit false
set_option maxHeartbeats 1000000
/-! EV37: dict comprehensions with keys of any kind -/
namespace EV
open PySem PySem.Spec PyProof.Rows L2
/-- the entry y: z is put into the dict at a -/
def dPutO (K : PySem.W.Frag) (a : Addr) (y z : V) (H : Hp) (Nx : Hp → Prop) : Prop := ∃ Φ kvs d dv kvs', Le Φ H ∧ Φ a = none ∧ OwnR K Φ H a (.dic kvs) ∧ CR K Φ H y d ∧ Rp K Φ z dv ∧ setO (.dic kvs) d dv = some (.dic kvs') ∧ ∀ H', (∀ b, b ≠ a → H' b = H b) → OwnR K Φ H' a (.dic kvs') → Nx H'
section
variable {X : Cx} {pins : List (Addr × Obj)} {σ : Sl} {H : Hp} {s : Shared} {E : Value → Shared → Prop} {a : Addr}
theorem dictSet_tup {ws : List (List Key × V)} {ks : List Key} {b : Addr} {v : V} {r : Value} {Q : Unit → Shared → Prop} (hu : X.A.units < cLine) (I : Inv X pins σ H s) (e : H a = some (.dT ws)) (eb : H b = some (.tup (ks.map kV))) (l : ws.length < sizeLine)
    (rv : RelV v r) (h : ∀ s', Inv X pins σ (upd H a (.dT (putK ws ks v))) s' → Q () s') : wpAny (model X.prog X.w) X.A (dictSet a (.ref b) r) Q E s := by
  obtain ⟨z, hd, xs, rel, dd⟩ := dt_of I.hok e
  have n1 : xs.length ≤ sizeLine := by rw [← Paired.length rel]; exact z
  have n2 : (putK ws ks v).length ≤ sizeLine := by have := length_putK ws ks v; omega
  have room : (tupleKind (mixKind X.prog X.w)).room X.A := hu
  refine wpAny_dictSet_heap (hsz := n1) room (key_of I.hok eb) dd fun h' d1 hs => h _ ?_
  obtain ⟨q, es, ep, hq, g2, g3, g4, _, g5⟩ := d1
  refine d_write I (by rw [e]; exact True.intro) hs ⟨q, hq⟩ ⟨n2, hd, _, (rel.put ks eb rv).keeps fun c ys ec => ?_, q, es, ep, hq, g2, g3, g4, g5⟩
  rw [upd_ne (ne_of ec e (fun z => nomatch z))]
  exact ec
theorem dictSet_O {y z : V} {u r : Value} {Nx : Hp → Prop} {Q : Unit → Shared → Prop} (hu : X.A.units < cLine) (I : Inv X pins σ H s) (h : dPutO X.K a y z H Nx) (ry : RelV y u) (rz : RelV z r) (hQ : ∀ s' H', Inv X pins σ H' s' → Nx H' → Q () s') :
    wpAny (model X.prog X.w) X.A (dictSet a u r) Q E s := by
  obtain ⟨Φ, kvs, d, dv, kvs', l, n, w, hd, hv, hp, q⟩ := h
  unfold setO at hp
  cases e : ksD d with
  | none => simp only [e, Option.bind] at hp; cases hp
  | some ks =>
    simp only [e, Option.bind] at hp
    split at hp
    · rename_i c
      rw [Bool.and_eq_true] at c
      obtain ⟨c1, c2⟩ := c
      have c2 := of_decide_eq_true c2
      cases hp
      cases ks with
      | one k =>
        have e2 := key_one e
        cases hd.key e2
        have ex := keyD_eq e2
        have fin : ∀ (ws : List (Key × V)) (G : Hp), (∀ b, b ≠ a → G b = H b) → G a = some (.dK ws) → RpK X.K Φ (ws.map fun w => (kD w.1, w.2)) kvs → Inv X pins σ G s → wpAny (model X.prog X.w) X.A (dictSet a u r) Q E s := fun ws G off h1 h2 I1 => by
          have hl := h2.length
          rw [List.length_map] at hl
          refine d_dictSet I1 h1 (by omega) ry rz fun s' I' => hQ s' _ I' (q _ (fun b hb => by rw [upd_ne hb]; exact off b hb) (.inl ⟨_, upd_same, ?_⟩))
          rw [ex]
          exact RpK.put kfK hv h2
        rcases w with ⟨ws, h1, h2⟩ | ⟨ws, h1, h2⟩
        · exact fin ws H (fun _ _ => rfl) h1 h2 I
        · cases ws with
          | nil =>
            cases h2
            exact fin [] (upd H a (.dK [])) upd_off upd_same .nil (I_recast I h1 True.intro (dk_there (dk_empty (I.hok a _ h1))) (dk_empty ((I.hok a _ h1).stay (fun _ _ _ q => q) (fun b q => by rw [upd_ne (ne_of q h1 (fun z => nomatch z))]; exact q) (fun b xs q => by rw [upd_ne (ne_of q h1 (fun z => nomatch z))]; exact q))))
          | cons w ws => cases h2; simp [ksOk, headKS, kTD] at c1
      | tup ks =>
        obtain ⟨ds, rfl, e2⟩ := key_tup e
        obtain ⟨b, rfl, hb⟩ := hd.keyT l e2
        obtain rfl : u = Value.ref b := ry
        have ex := keysD_eq e2
        have fin : ∀ (ws : List (List Key × V)) (G : Hp), (∀ b, b ≠ a → G b = H b) → G a = some (.dT ws) → G b = some (.tup (ks.map kV)) → RpK X.K Φ (ws.map fun w => (kTD w.1, w.2)) kvs → Inv X pins σ G s → wpAny (model X.prog X.w) X.A (dictSet a (.ref b) r) Q E s := fun ws G off h1 hb h2 I1 => by
          have hl := h2.length
          rw [List.length_map] at hl
          refine dictSet_tup hu I1 h1 hb (by omega) rz fun s' I' => hQ s' _ I' (q _ (fun b hb => by rw [upd_ne hb]; exact off b hb) (.inr ⟨_, upd_same, ?_⟩))
          rw [ex]
          exact RpK.put kfT hv h2
        rcases w with ⟨ws, h1, h2⟩ | ⟨ws, h1, h2⟩
        · cases ws with
          | nil =>
            cases h2
            exact fin [] (upd H a (.dT [])) upd_off upd_same (by rw [upd_ne (ne_of hb h1 (fun z => nomatch z))]; exact hb) .nil (I_recast I h1 True.intro (dk_there (I.hok a _ h1)) (dt_empty ((I.hok a _ h1).stay (fun _ _ _ q => q) (fun b q => by rw [upd_ne (ne_of q h1 (fun z => nomatch z))]; exact q) (fun b xs q => by rw [upd_ne (ne_of q h1 (fun z => nomatch z))]; exact q))))
          | cons w ws =>
            cases h2
            obtain ⟨wk, wv⟩ := w
            cases wk <;> simp [ksOk, headKS, kD] at c1
        · exact fin ws H (fun _ _ => rfl) h1 hb h2 I
    · cases hp
end
/-- {k: v for .. in .. if ..}: D is the new dict -/
def tDcO (K : PySem.W.Frag) (wi : TI) (g : TG) (tt : TT) (tk tv : TE) (vs : List Nat) : TE := fun σ H Q => wi σ H fun J H1 => ∀ D, H1 D = none → ∃ W : Nat → Nat → Hp → Prop, (∃ m, W 0 m (upd H1 D (.dK []))) ∧ ∀ i m G, W i m G →
  (J.stop i G ∧ Q (.ref D) G) ∨
  (J.go i G ∧ ∃ Nx : Hp → Prop, (∀ G', Nx G' → ∃ m', m' < m ∧ W (i + 1) m' G') ∧
    ∀ x G', J.yld i G x G' → g x (wipe σ vs) G' fun σ2 G2 => wipe σ2 vs = wipe σ vs ∧ tt σ2 G2 fun b G3 => if b = true then tk σ2 G3 fun y G4 => tv σ2 G4 fun z G5 => dPutO K D y z G5 Nx else Nx G3)
section
variable {X : Cx}
theorem dc_core {pins : List (Addr × Obj)} {s : Shared} {σ : Sl} {H : Hp} {Q : VK} {fin : Value → Shared → Prop} {use : Option (Value → PySem.Sem Unit)} {pos2 : Pos} {kx vx tg iter : Expr} {ifs : List Expr} {scope : Scope} {own : List (Str × Nat)} {pos : Pos} {wi : TI} {g : TG} {tt : TT} {tk tv : TE} (hc : X.calm = true) (hu : X.A.units < cLine) (hN : X.N.Nodup) (hi : PI X tg iter wi) (ok : BlkOk X.N X.env.scope scope own)
    (bg : ∀ (s : Shared) (H : Hp) (C : Addr) (cl : List (Str × Addr)) (fp : List Addr), PG (X.blk s H scope (compEnvC scope cl C X.env) fp) tg g)
    (bt : ∀ (s : Shared) (H : Hp) (C : Addr) (cl : List (Str × Addr)) (fp : List Addr), PTs (X.blk s H scope (compEnvC scope cl C X.env) fp) ifs tt)
    (bk : ∀ (s : Shared) (H : Hp) (C : Addr) (cl : List (Str × Addr)) (fp : List Addr), PE (X.blk s H scope (compEnvC scope cl C X.env) fp) kx tk)
    (bv : ∀ (s : Shared) (H : Hp) (C : Addr) (cl : List (Str × Addr)) (fp : List Addr), PE (X.blk s H scope (compEnvC scope cl C X.env) fp) vx tv) (hs : ∀ x, foldedSetIterable iter X.env x = pure x) (I : Inv X pins σ H s)
    (hyp : tDcO X.K wi g tt tk tv (own.map (·.2)) σ H Q)
    (out : ∀ L C s' m H', Inv X pins σ H' s' → Q (.ref L) H' → s'.heap.Ns C m → FpOk X pins H' C → compPost (model X.prog X.w) X.A X.xe use fin (.ref L) C (.ok .next) s') :
    wpAny (model X.prog X.w) X.A (comprehension (.DictComp kx vx [⟨tg, iter, ifs, 0⟩] scope pos) scope X.env pos2 newDict false (eval iter X.env) use) fin X.xe s := by
  have free : ∀ y ∈ scope.names, y.2 = .free → ∃ c, X.env.cells.lookup y.1 = some c := fun y hy e => (ok.free y hy e).elim (fun q => I.ok.has _ (.inl q)) fun q => I.ok.has _ (.inr q)
  refine wpAny_comprehension_free (use := use) rfl hs (closure_ok free) ok.kind (fun y hy e => by rw [ok.uniq y hy, e]) (thn (hi.run pins s σ H _ I hyp) fun _ _ p1 => thn p1 fun _ t p2 => ?_)
  obtain ⟨it, cs, live, J, G, rfl, I2, T, lv, fr, rest⟩ := p2
  refine wpAny_newObj_type (newEnv_comp ?_)
  obtain ⟨D, eD⟩ : ∃ D, t.heap.objs.size = D := ⟨_, rfl⟩
  have nD : G D = none := I2.hok.fresh (Nat.le_of_eq eD)
  obtain ⟨W, ⟨m0, w0⟩, turn⟩ := rest D nD
  rw [eD]
  obtain ⟨t3, e3⟩ : ∃ t3 : Shared, ({ t with heap := t.heap.push { cls := .type "dict", data := .dict #[] } } : Shared) = t3 := ⟨_, rfl⟩
  have h3 : t3.heap = t.heap.push { cls := .type "dict", data := .dict #[] } := by rw [← e3]
  have J3 : Inv X pins σ (upd G D (.dK [])) t3 := by
    subst e3 eD
    exact I2.laid (t' := t.toks) (fun b o e => Heap.get?_push_of_some _ e) (Nat.le_refl _) (L2.dk_empty t.heap I2.big)
  rw [e3]
  have below : ∀ b ∈ cs, b < D := fun b hb => by
    obtain ⟨o, e, _⟩ := T.obj _ _ lv b hb
    exact eD ▸ Heap.lt_size e
  have sz3 : t3.heap.objs.size = D + 1 := by rw [h3, Heap.size_push, eD]
  have fr3 : ∀ b ∈ cs, FpOk X pins (upd G D (.dK [])) b ∧ b < t3.heap.objs.size := fun b hb =>
    ⟨⟨by rw [upd_ne (Nat.ne_of_lt (below b hb))]; exact (fr b hb).1, (fr b hb).2⟩, by rw [sz3]; exact Nat.lt_succ_of_lt (below b hb)⟩
  have lv3 : live 0 t3.heap := T.keep _ _ _ lv fun b _ o e => by rw [h3]; exact Heap.get?_push_of_some _ e
  have J4 := block_start J3 ok hN fr3
  have qg := bg t3 (upd G D (.dK [])) t3.heap.objs.size (cellsFrom (t3.heap.objs.size + 1) scope.names (cloFrom X.env.cells scope.names [])) cs
  have qt := bt t3 (upd G D (.dK [])) t3.heap.objs.size (cellsFrom (t3.heap.objs.size + 1) scope.names (cloFrom X.env.cells scope.names [])) cs
  have qk := bk t3 (upd G D (.dK [])) t3.heap.objs.size (cellsFrom (t3.heap.objs.size + 1) scope.names (cloFrom X.env.cells scope.names [])) cs
  have qv := bv t3 (upd G D (.dK [])) t3.heap.objs.size (cellsFrom (t3.heap.objs.size + 1) scope.names (cloFrom X.env.cells scope.names [])) cs
  have none3 : ∀ b ∈ cs, (upd G D (.dK [])) b = none := fun b hb => (fr3 b hb).1.1
  obtain ⟨G3, eG⟩ : ∃ G3, upd G D (.dK []) = G3 := ⟨_, rfl⟩
  rw [eG] at J3 J4 qg qt qk qv w0 none3 fr3
  show codeAny _ _ (.compStart (.DictComp kx vx [⟨tg, iter, ifs, 0⟩] scope pos) 0 (.ref it) (.ref D) (compEnvC scope (cellsFrom (t3.heap.objs.size + 1) scope.names (cloFrom X.env.cells scope.names [])) t3.heap.objs.size X.env)) (compPost (model X.prog X.w) X.A X.xe use fin (.ref D) t3.heap.objs.size) _
  obtain ⟨cenv, ec⟩ : ∃ c, compEnvC scope (cellsFrom (t3.heap.objs.size + 1) scope.names (cloFrom X.env.cells scope.names [])) t3.heap.objs.size X.env = c := ⟨_, rfl⟩
  have loc : cenv.locals = t3.heap.objs.size := by rw [← ec]; rfl
  rw [ec] at J4 qg qt qk qv ⊢
  obtain ⟨t4, e4⟩ : ∃ t4 : Shared, ({ t3 with heap := pushCells (t3.heap.push { cls := .type "dict", data := .dict #[] }) scope.names } : Shared) = t4 := ⟨_, rfl⟩
  rw [e4] at J4 ⊢
  have lv4 : live 0 t4.heap := T.keep _ _ _ lv3 fun b _ o e => by rw [← e4]; exact pushCells_keeps _ _ _ _ (Heap.get?_push_of_some _ e)
  have still : ∀ {σ' : Sl} {G' : Hp} {u : Shared}, Inv (X.blk t3 G3 scope cenv cs) [] σ' G' u → (∀ b ∈ cs, G' b = none) → ∀ b ∈ cs, FpOk (X.blk t3 G3 scope cenv cs) [] G' b := fun {σ' G' u} I' hn b hb =>
    ⟨hn b hb, (I'.ok.exf b hb).1, I'.ok.exfs b hb, .inl hb, fun x c e => (I'.ok.exf b hb).2 x c e, fun p hp => absurd (show p ∈ ([] : List (Addr × Obj)) ++ [] from hp) (by simp)⟩
  have loop : codeAny (model X.prog X.w) X.A (.compLoop (.DictComp kx vx [⟨tg, iter, ifs, 0⟩] scope pos) 0 (.ref it) (.ref D) cenv) (compPost (model X.prog X.w) X.A X.xe use fin (.ref D) t3.heap.objs.size) t4 := by
    refine compLoop_anyD (fun n u => ∃ i G', Inv (X.blk t3 G3 scope cenv cs) [] (wipe σ (own.map (·.2))) G' u ∧ live i u.heap ∧ (∀ b ∈ cs, G' b = none) ∧ W i n G') ?_ m0 ⟨0, G3, J4, lv4, none3, w0⟩
    rintro n u ⟨i, G5, J5, lv5, none5, w5⟩
    rcases turn i n G5 w5 with ⟨stop, fine⟩ | ⟨go, Nx, hNx, step⟩
    · refine thnF (T.done (X.blk t3 G3 scope cenv cs) rfl rfl rfl hc i [] u _ G5 (fun _ _ => False) J5 (still J5 none5) lv5 stop) fun r u6 ⟨hr, J6⟩ => ?_
      subst hr
      have J7 : Inv X pins σ G5 u6 := J3.call' (ch := cs) J6.os J6.base J6.hok J6.bare fun b hb => ⟨(fr3 b hb).1.2.2.2.1, (fr3 b hb).1.2.1, (fr3 b hb).1.2.2.2.2.1, (fr3 b hb).1.2.2.2.2.2⟩
      have nl : G5 cenv.locals = none := J6.free
      obtain ⟨m, hn, _⟩ := J6.loc
      have hn : u6.heap.Ns cenv.locals m := hn
      rw [loc] at hn nl
      exact out D _ u6 m G5 J7 fine hn (J3.fpOk (H' := G5) (Nat.le_refl _) nl)
    · refine thnF (T.item (X.blk t3 G3 scope cenv cs) rfl rfl rfl hc i [] u _ G5 (fun _ _ => False) J5 (still J5 none5) lv5 go) fun r u6 ⟨v, hr, p6⟩ => ?_
      subst hr
      refine thnF p6 fun _ u7 ⟨x, G7, J7, r7, y7, lv7, none7⟩ => ?_
      refine thnF (qg.run _ u7 _ G7 x v _ (J7.pinned (still J7 none7) (T.obj _ _ lv7)) r7 (step x G7 y7)) fun _ u8 ⟨σ8, G8, J8, same8, p8⟩ => ?_
      refine thnF (qt.run _ u8 σ8 G8 _ J8 p8) fun b u9 ⟨G9, J9, p9⟩ => ?_
      have again : ∀ {u' : Shared} {G' : Hp}, Inv (X.blk t3 G3 scope cenv cs) ([] ++ pinsAt cs u7.heap) σ8 G' u' → Nx G' → ∃ m, m < n ∧ ∃ i G', Inv (X.blk t3 G3 scope cenv cs) [] (wipe σ (own.map (·.2))) G' u' ∧ live i u'.heap ∧ (∀ b ∈ cs, G' b = none) ∧ W i m G' := fun {u' G'} J' nx => by
        obtain ⟨m', hm, w'⟩ := hNx G' nx
        have pin : ∀ b ∈ cs, ∀ o, u7.heap.get? b = some o → u'.heap.get? b = some o ∧ G' b = none := fun b hb o e => by
          have q := J'.pin (b, o) (List.mem_append_right _ (List.mem_append_right _ (mem_pinsAt hb e)))
          exact ⟨q.1, q.2.1⟩
        refine ⟨m', hm, i + 1, G', (J'.unpinned (pins := [])).weak (by rw [← same8, wipe_length]) (fun j v e => ?_), T.keep _ _ _ lv7 fun b hb o e => (pin b hb o e).1, fun b hb => ?_, w'⟩
        · rw [← same8] at e
          exact (wipe_some e).1
        · obtain ⟨o, e, _⟩ := T.obj _ _ lv7 b hb
          exact (pin b hb o e).2
      cases b with
      | false =>
        simp only [Bool.false_eq_true, if_false] at p9 ⊢
        exact again J9 p9
      | true =>
        simp only [if_true] at p9 ⊢
        refine thnF (qk.run _ u9 σ8 G9 _ J9 p9) fun kv u10 ⟨yk, G10, J10, r10, p10⟩ => ?_
        refine thnF (qv.run _ u10 σ8 G10 _ J10 p10) fun vv u11 ⟨yv, G11, J11, r11, put⟩ => ?_
        exact dictSet_O (X := X.blk t3 G3 scope cenv cs) hu J11 put r10 r11 fun u12 G12 J12 nx => again J12 nx
  exact codeAny_compStart_dict loop (T.self X.A 0 _ _ _ lv4 loop)
theorem pe_dcO {kx vx tg iter : Expr} {ifs : List Expr} {scope : Scope} {own : List (Str × Nat)} {pos : Pos} {wi : TI} {g : TG} {tt : TT} {tk tv : TE} (hc : X.calm = true) (hu : X.A.units < cLine) (hN : X.N.Nodup) (hi : PI X tg iter wi) (ok : BlkOk X.N X.env.scope scope own)
    (bg : ∀ (s : Shared) (H : Hp) (C : Addr) (cl : List (Str × Addr)) (fp : List Addr), PG (X.blk s H scope (compEnvC scope cl C X.env) fp) tg g)
    (bt : ∀ (s : Shared) (H : Hp) (C : Addr) (cl : List (Str × Addr)) (fp : List Addr), PTs (X.blk s H scope (compEnvC scope cl C X.env) fp) ifs tt)
    (bk : ∀ (s : Shared) (H : Hp) (C : Addr) (cl : List (Str × Addr)) (fp : List Addr), PE (X.blk s H scope (compEnvC scope cl C X.env) fp) kx tk)
    (bv : ∀ (s : Shared) (H : Hp) (C : Addr) (cl : List (Str × Addr)) (fp : List Addr), PE (X.blk s H scope (compEnvC scope cl C X.env) fp) vx tv) (hs : ∀ x, foldedSetIterable iter X.env x = pure x) :
    PE X (.DictComp kx vx [⟨tg, iter, ifs, 0⟩] scope pos) (tDcO X.K wi g tt tk tv (own.map (·.2))) := by
  refine ⟨fun pins s σ H Q I hyp => ?_⟩
  rw [arm_eval_DictComp]
  exact dc_core hc hu hN hi ok bg bt bk bv hs I hyp fun L C s' m H' J qq hn ⟨f0, f1, _, f3, f4, f5⟩ => ⟨m, hn, fun _ sb => ⟨.ref L, H', J.turned (t' := s'.toks) (fun b _ hb e => (sb.2 b hb).trans e) f0 f1 f3 f4 f5, rfl, qq⟩⟩
/-- y = {k: v for ..}, on one line -/
theorem ps_setDcO {i : Nat} {y : Str} {py spos : Pos} {kx vx tg iter : Expr} {ifs : List Expr} {scope : Scope} {own : List (Str × Nat)} {pos : Pos} {wi : TI} {g : TG} {tt : TT} {tk tv : TE} (hc : X.calm = true) (hu : X.A.units < cLine) (hN : X.N.Nodup) (at_i : X.N[i]? = some y) (loc : X.env.scope.names.lookup y = some .local)
    (sw : swapsWith (.DictComp kx vx [⟨tg, iter, ifs, 0⟩] scope pos) (some (.Name y py)) spos.line X.env = pure true) (hi : PI X tg iter wi) (ok : BlkOk X.N X.env.scope scope own)
    (bg : ∀ (s : Shared) (H : Hp) (C : Addr) (cl : List (Str × Addr)) (fp : List Addr), PG (X.blk s H scope (compEnvC scope cl C X.env) fp) tg g)
    (bt : ∀ (s : Shared) (H : Hp) (C : Addr) (cl : List (Str × Addr)) (fp : List Addr), PTs (X.blk s H scope (compEnvC scope cl C X.env) fp) ifs tt)
    (bk : ∀ (s : Shared) (H : Hp) (C : Addr) (cl : List (Str × Addr)) (fp : List Addr), PE (X.blk s H scope (compEnvC scope cl C X.env) fp) kx tk)
    (bv : ∀ (s : Shared) (H : Hp) (C : Addr) (cl : List (Str × Addr)) (fp : List Addr), PE (X.blk s H scope (compEnvC scope cl C X.env) fp) vx tv) (hs : ∀ x, foldedSetIterable iter X.env x = pure x) :
    PS X (.Assign [.Name y py] (.DictComp kx vx [⟨tg, iter, ifs, 0⟩] scope pos) spos) (tAsg (tDcO X.K wi g tt tk tv (own.map (·.2))) (gName i)) := by
  refine ⟨fun pins s σ H De I hyp => ?_⟩
  rw [exec_Assign_Name_used _ _ _ _ sw]
  refine wpAny_bind (wpAny_standAt (wpAny_bind ?_))
  have hyp : tDcO X.K wi g tt tk tv (own.map (·.2)) σ H (fun v G => gName i v σ G De.nx) := hyp
  show wpAny (model X.prog X.w) X.A (do let _ ← comprehension (.DictComp kx vx [⟨tg, iter, ifs, 0⟩] scope pos) scope X.env (firstIterPos [⟨tg, iter, ifs, 0⟩] pos) newDict false (eval iter X.env) (some (assign (.Name y py) X.env))) _ _ s
  refine wpAny_bind (thn (dc_core (fin := fun _ u => SP X pins De .next u) hc hu hN hi ok bg bt bk bv hs I hyp fun L C u m G J qq hn ⟨f0, f1, f2, f3, f4, f5⟩ => ?_) fun _ u z => wpAny_pure (wpAny_pure z))
  show wpAny (model X.prog X.w) X.A (assign (.Name y py) X.env (.ref L)) _ X.xe u
  refine wpAny_assign_Name (store_ok2 (v := V.ref L) J hN at_i (.inl loc) rfl (fun u2 J2 ⟨a, sb, ha⟩ => ?_) (.inr loc))
  have ne : C ≠ a := ha.elim (fun z => by rw [z]; exact f1) fun z e => f4 y a z e.symm
  exact ⟨m, hn.sameBut sb ne, fun _ sb2 => ⟨_, G, J2.turned (t' := u2.toks) (fun b _ hb e => (sb2.2 b hb).trans e) f0 f1 f3 f4 f5, qq⟩⟩
end
end EV
end
section
set_option Elab.async false
set_option linter.all false
set_option maxRecDepth 100000
set_option autoImplicit false
set_option maxHeartbeats 1000000
/-! EV38: dict comprehensions, read -/
namespace EV
open PySem PySem.Spec PyProof.Rows L2
def dcLoop (vs : List Nat) (t : Tg) (c : SemB) (fk fv : Sem) : List D → List (D × D) → Sg → Re (List (D × D))
  | [], acc, s => .ok acc (unS vs s)
  | d :: ds, acc, s => match t.bind d (unS vs s) with
    | none => .bad
    | some s1 => (c s1).bindN fun b s2 => if b = true then (fk s2).bindN fun r s3 => match r with
        | .val x => (fv s3).bindN fun r' s4 => match r' with
          | .val y => match setO (.dic acc) x y with
            | some (.dic acc') => dcLoop vs t c fk fv ds acc' s4
            | _ => .bad
          | _ => .bad
        | _ => .bad
      else dcLoop vs t c fk fv ds acc s2
def semDComp (vs : List Nat) (t : Tg) (it : SemI) (c : SemB) (fk fv : Sem) : Sem := fun s => (it s).bind fun ds s1 => if noOwn vs s1 = true then (dcLoop vs t c fk fv ds [] s1).bindN fun kvs s2 => .ok (.own (.dic kvs)) (backS vs s1 s2) else .bad
theorem dcLoop_cons {vs : List Nat} {t : Tg} {c : SemB} {fk fv : Sem} {d : D} {ds : List D} {acc zs : List (D × D)} {s s' : Sg} (h : dcLoop vs t c fk fv (d :: ds) acc s = .ok zs s') :
    ∃ s1 b s2, t.bind d (unS vs s) = some s1 ∧ c s1 = .ok b s2 ∧ ((b = true ∧ ∃ x s3 y s4 acc', fk s2 = .ok (.val x) s3 ∧ fv s3 = .ok (.val y) s4 ∧ setO (.dic acc) x y = some (.dic acc') ∧ dcLoop vs t c fk fv ds acc' s4 = .ok zs s') ∨ (b = false ∧ dcLoop vs t c fk fv ds acc s2 = .ok zs s')) := by
  simp only [dcLoop] at h
  cases e1 : t.bind d (unS vs s) with
  | none => rw [e1] at h; cases h
  | some s1 =>
    rw [e1] at h
    obtain ⟨b, s2, e2, h⟩ := bindN_ok h
    refine ⟨s1, b, s2, rfl, e2, ?_⟩
    cases b with
    | true =>
      rw [if_pos rfl] at h
      obtain ⟨r, s3, e3, h⟩ := bindN_ok h
      cases r with
      | val x =>
        obtain ⟨r', s4, e4, h⟩ := bindN_ok h
        cases r' with
        | val y =>
          simp only at h
          cases e5 : setO (.dic acc) x y with
          | none => rw [e5] at h; cases h
          | some o =>
            cases o with
            | dic acc' => rw [e5] at h; exact .inl ⟨rfl, x, s3, y, s4, acc', e3, e4, e5, h⟩
            | lst l => rw [e5] at h; cases h
        | _ => cases h
      | _ => cases h
    | false => rw [if_neg Bool.false_ne_true] at h; exact .inr ⟨rfl, h⟩
theorem dcomp_imp {K : PySem.W.Frag} {W : WX} {mg : Str → Option Value} {vs : List Nat} {t : Tg} {it : SemI} {c : SemB} {fk fv : Sem} {tt : TT} (ht : ∀ σ H Q, tB K mg WF c σ H Q → tt σ H Q) (hsub : ∀ i ∈ t.slots, i ∈ vs) {σ : Sl} {H : Hp} {Q : VK}
    (h : tR K mg W (semDComp vs t it c fk fv) σ H Q) : tDcO K (tI K mg W it) (tTg K t) tt (tR K mg WF fk) (tR K mg WF fv) vs σ H Q := by
  obtain ⟨Φ, env, g0, o⟩ := h
  refine ⟨Φ, env, g0, ?_⟩
  have o : Out K mg W σ Φ H (Ow env σ) ((it env).bind fun ds s1 => if noOwn vs s1 = true then (dcLoop vs t c fk fv ds [] s1).bindN fun kvs s2 => .ok (.own (.dic kvs)) (backS vs s1 s2) else .bad) Q := o
  generalize it env = res at o ⊢
  cases res with
  | ex x s => exact o
  | bad => exact o
  | ok ds env1 =>
    intro J Φ1 H1 g1 wk p1 Dd hD
    have o : Out K mg W σ Φ H (Ow env σ) (if noOwn vs env1 = true then (dcLoop vs t c fk fv ds [] env1).bindN fun kvs s2 => .ok (.own (.dic kvs)) (backS vs env1 s2) else .bad) Q := o
    have hn : noOwn vs env1 = true := by
      cases hn : noOwn vs env1 with
      | true => rfl
      | false => rw [hn, if_neg Bool.false_ne_true] at o; exact o.elim
    rw [if_pos hn] at o
    cases e1 : dcLoop vs t c fk fv ds [] env1 with
    | ex x s => rw [e1] at o; exact o.elim
    | bad => rw [e1] at o; exact o.elim
    | ok zs s2 =>
      rw [e1] at o
      have o : Out K mg W σ Φ H (Ow env σ) (.ok (.own (.dic zs)) (backS vs env1 s2)) Q := o
      obtain ⟨hz, wk⟩ := wk
      have hl : ∀ i, i ∉ vs → (wipe σ vs)[i]? = σ[i]? := fun i hi => wipe_get hi
      refine ⟨fun i m H => m = ds.length - i ∧ i ≤ ds.length ∧ ∃ Φi envi acc, Good K Φi H (unS vs envi) (wipe σ vs) ∧ Pres Φ1 H1 (Ow env1 σ) Φi H (fun a => Ow (unS vs envi) (wipe σ vs) a ∨ a = Dd) ∧ OwnR K Φi H Dd (.dic acc) ∧ Φi Dd = none ∧
        dcLoop vs t c fk fv (ds.drop i) acc envi = .ok zs s2 ∧ ¬ Ow (unS vs envi) (wipe σ vs) Dd, ⟨ds.length, by simp, Nat.zero_le _, Φ1, env1, [], ?_, ?_, .inl ⟨[], upd_same, .nil⟩, g1.le.none hD, by simpa using e1, ?_⟩, ?_⟩
      · obtain ⟨gg, pp⟩ := g1.grow (Le.refl _) (g1.le.trans (upd_le hD)) (upd_le (u := .dK []) hD) fun _ z => .inl z
        exact (gg.unS (wipe_length _ _) hl).1
      · obtain ⟨gg, sub⟩ := g1.unS (σ' := wipe σ vs) (wipe_length _ _) hl
        refine ⟨Le.refl _, fun a o e _ => upd_le hD a o e, fun a h => ?_, fun _ z => .inl z⟩
        rcases h with h | h
        · exact .inl (sub a h)
        · exact .inr (h ▸ hD)
      · intro h
        obtain ⟨gg, sub⟩ := g1.unS (σ' := wipe σ vs) (wipe_length _ _) hl
        exact (g1.owned (sub _ h)).2 hD
      · rintro i m Hi ⟨rfl, hi, Φi, envi, acc, gi, pi, wDi, nDi, e2, noD⟩
        obtain ⟨st, gy⟩ := wk Φi Hi pi.ff gi.le
        by_cases hlt : i < ds.length
        · right
          obtain ⟨d, hd⟩ : ∃ d, ds[i]? = some d := ⟨ds[i], by simp [hlt]⟩
          obtain ⟨go, yl⟩ := gy i d hd
          have hdrop : ds.drop i = d :: ds.drop (i + 1) := by
            rw [List.drop_eq_getElem_cons hlt]
            have : ds[i] = d := by rw [List.getElem?_eq_getElem hlt] at hd; exact Option.some.inj hd
            rw [this]
          rw [hdrop] at e2
          obtain ⟨s1, b, s2', b1, c1, rest⟩ := dcLoop_cons e2
          refine ⟨go, fun H' => ∃ m', m' < ds.length - i ∧ (m' = ds.length - (i + 1) ∧ i + 1 ≤ ds.length ∧ ∃ Φi envi acc, Good K Φi H' (unS vs envi) (wipe σ vs) ∧ Pres Φ1 H1 (Ow env1 σ) Φi H' (fun a => Ow (unS vs envi) (wipe σ vs) a ∨ a = Dd) ∧ OwnR K Φi H' Dd (.dic acc) ∧ Φi Dd = none ∧
            dcLoop vs t c fk fv (ds.drop (i + 1)) acc envi = .ok zs s2 ∧ ¬ Ow (unS vs envi) (wipe σ vs) Dd), fun H' h => h, fun x H2 y => ?_⟩
          obtain ⟨Φ2, l1, l2, l3, l4, rx⟩ := yl x H2 y
          obtain ⟨g2, p2⟩ := gi.grow l1 l2 l3 l4
          obtain ⟨u0, hDi⟩ : ∃ u, Hi Dd = some u := by
            cases q : Hi Dd with
            | none => exact absurd q wDi.there
            | some u => exact ⟨u, rfl⟩
          have notup : ∀ xs, u0 ≠ .tup xs := fun xs q => wDi.noTup xs (q ▸ hDi)
          have hD2 : H2 Dd = some u0 := l3 _ _ hDi
          have nD2 : Φ2 Dd = none := by
            cases z : Φ2 Dd with
            | none => rfl
            | some u => rcases l4 Dd (by rw [z]; simp) with y | y | ⟨_, y⟩
                        · exact absurd nDi y
                        · rw [hDi] at y; cases y
                        · rw [hDi] at y; cases y; exact absurd rfl (notup _)
          have wD2 : OwnR K Φ2 H2 Dd (.dic acc) := wDi.mono l1 (by rw [hD2, hDi])
          have later : ∀ {Φ3 H3 : Hp} {env3 : Sg} {σ3 : Sl}, Pres Φ2 H2 (Ow (unS vs envi) (wipe σ vs)) Φ3 H3 (Ow env3 σ3) → OwnR K Φ3 H3 Dd (.dic acc) ∧ Φ3 Dd = none ∧ ¬ Ow env3 σ3 Dd := fun {Φ3 H3 env3 σ3} p => by
            have hD3 : H3 Dd = some u0 := p.kp _ _ hD2 noD
            refine ⟨wD2.mono p.ff (by rw [hD3, hD2]), ?_, fun h => ?_⟩
            · cases z : Φ3 Dd with
              | none => rfl
              | some u => rcases p.fz Dd (by rw [z]; simp) with y | y | y | ⟨_, y⟩
                          · exact absurd nD2 y
                          · exact absurd y noD
                          · rw [hD2] at y; cases y
                          · rw [hD2] at y; cases y; exact absurd rfl (notup _)
            · rcases p.nw _ h with y | y
              · exact noD y
              · rw [hD2] at y; cases y
          refine ⟨Φ2, unS vs envi, d, s1, g2, rx, b1, fun σ2 gs ps same => ⟨wipe_same same hsub, ht _ _ _ ⟨Φ2, s1, gs, ?_⟩⟩⟩
          have hl2 : (wipe σ vs).length = σ2.length := same.1.symm
          have hs2 : ∀ j, j ∉ vs → (wipe σ vs)[j]? = σ2[j]? := fun j hj => (same.2 j fun z => hj (hsub j z)).symm
          rw [c1]
          intro Φ3 H3 g3 p3
          have p3' := ps.trans p3
          rcases rest with ⟨rfl, x0, s3, y0, s4, acc', f1, f2, f3, e4⟩ | ⟨rfl, e4⟩
          · rw [if_pos rfl]
            refine ⟨Φ3, s2', g3, ?_⟩
            rw [f1]
            intro v Φ4 H4 g4 rv p4
            have p4' := p3'.trans (p4.plain (r := .val x0) fun b h => h)
            refine ⟨Φ4, s3, g4, ?_⟩
            rw [f2]
            intro z Φ5 H5 g5 rz p5
            have p5a := p5.plain (r := .val y0) fun b h => h
            have p5' := p4'.trans p5a
            obtain ⟨w5, nD5, no5⟩ := later p5'
            have rv : Rp K Φ4 v x0 := rv
            refine ⟨Φ5, acc, x0, y0, acc', g5.le, nD5, w5, .fz (rv.mono p5a.ff), rz, f3, fun H' off w' => ⟨ds.length - (i + 1), by omega, rfl, hlt, Φ5, s4, acc', ?_, ?_, w', nD5, e4, ?_⟩⟩
            · obtain ⟨u', hu'⟩ : ∃ u, H' Dd = some u := by
                cases q : H' Dd with
                | none => exact absurd q w'.there
                | some u => exact ⟨u, rfl⟩
              have eH : H' = upd H5 Dd u' := by
                funext b
                by_cases c : b = Dd
                · subst c; rw [upd_same]; exact hu'
                · rw [upd_ne c]; exact off b c
              rw [eH]
              obtain ⟨gg, sub⟩ := g5.unS (σ' := wipe σ vs) hl2 hs2
              exact gg.other nD5 fun h => no5 (sub _ h)
            · obtain ⟨gg, sub⟩ := g5.unS (σ' := wipe σ vs) hl2 hs2
              have pp := pi.trans (((p2.trans p5').mono (B := fun a => Ow (unS vs envi) (wipe σ vs) a ∨ a = Dd) (B1 := fun a => Ow s4 σ2 a ∨ a = Dd) (fun a h => .inl h) (fun a h => h.elim .inl fun z => .inr (.inl (.inr z)))))
              refine ⟨pp.ff, fun a o e n => ?_, fun a h => ?_, pp.fz⟩
              · rw [off a (ne_of_none e hD)]; exact pp.kp a o e n
              · exact pp.nw a (h.imp (sub a) id)
            · obtain ⟨gg, sub⟩ := g5.unS (σ' := wipe σ vs) hl2 hs2
              exact fun h => no5 (sub _ h)
          · rw [if_neg Bool.false_ne_true]
            obtain ⟨w3, nD3, no3⟩ := later p3'
            obtain ⟨gg, sub⟩ := g3.unS (σ' := wipe σ vs) hl2 hs2
            refine ⟨ds.length - (i + 1), by omega, rfl, hlt, Φ3, s2', acc, gg, ?_, w3, nD3, e4, fun h => no3 (sub _ h)⟩
            have pp := pi.trans (((p2.trans p3').mono (B := fun a => Ow (unS vs envi) (wipe σ vs) a ∨ a = Dd) (B1 := fun a => Ow s2' σ2 a ∨ a = Dd) (fun a h => .inl h) (fun a h => h.elim .inl fun z => .inr (.inl (.inr z)))))
            exact ⟨pp.ff, pp.kp, fun a h => pp.nw a (h.imp (sub a) id), pp.fz⟩
        · left
          have : i = ds.length := by omega
          subst this
          rw [List.drop_length] at e2
          simp only [dcLoop] at e2
          cases e2
          refine ⟨st, ?_⟩
          obtain ⟨gb, sub⟩ := g1.backS hn pi.ff gi
          refine o (.ref Dd) Φi Hi gb ⟨Dd, rfl, nDi, wDi, fun h => noD (sub _ h)⟩ ((p1.trans pi).some fun b h => ?_)
          rcases h with h | h
          · exact .inl (sub b h)
          · cases (show V.ref Dd = V.ref b from h); exact .inr rfl
section
variable {T : Tx} {N : List Str} {sc : Scope} {cold top : Bool} {k : Nat}
theorem de_dcomp {kx vx tg iter : Expr} {ifs : List Expr} {scope : Scope} {own : List (Str × Nat)} {pos : Pos} {t : Tg} {it : SemI} {c : SemB} {fk fv : Sem} (hc : cold = true) (hi : DI T N sc cold top k tg iter it) (hb : blkC N sc scope own = true)
    (htg : tgOk N (relS scope sc) (isLoc scope) tg = some t) (hsub : t.slots.all (fun i => (own.map (·.2)).contains i) = true) (hcs : DC T N (relS scope sc) cold false k ifs c) (hk : DE T N (relS scope sc) cold false k kx fk) (hv : DE T N (relS scope sc) cold false k vx fv) (hs : (match iter with | .Set .. => false | _ => true) = true) :
    DE T N sc cold top k (.DictComp kx vx [⟨tg, iter, ifs, 0⟩] scope pos) (semDComp (own.map (·.2)) t it c fk fv) := fun X W F => by
  have hbk : BlkOk X.N X.env.scope scope own := by rw [F.eN, F.es]; exact blkOk_by hb
  obtain ⟨tt, ht⟩ : ∃ tt : TT, (∀ (s : Shared) (H : Hp) (C : Addr) (cl : List (Str × Addr)) (fp : List Addr), PTs (X.blk s H scope (compEnvC scope cl C X.env) fp) ifs tt) ∧ ∀ σ H Q, tB T.K T.mg WF c σ H Q → tt σ H Q := by
    refine ⟨tB T.K T.mg WF c, fun s H C cl fp => ?_, fun _ _ _ h => h⟩
    obtain ⟨t', h1, h2⟩ := hcs _ _ (F.blk s H scope C cl fp)
    exact ⟨fun pins s σ H Q I q => h1.run pins s σ H Q I (h2 σ H Q q)⟩
  have hu : X.A.units < cLine := by have := F.rm.un; omega
  refine PEimp (pe_dcO (F.cal hc).1 hu (by rw [F.eN]; exact F.nd) (hi X W F) hbk (fun s H C cl fp => pg_of (F.blk s H scope C cl fp) hc (fun x hx hl => ?_) tg t htg) ht.1 (fun s H C cl fp => hk _ _ (F.blk s H scope C cl fp)) (fun s H C cl fp => hv _ _ (F.blk s H scope C cl fp)) (fun x => ?_)) fun σ H Q h => by
    rw [F.eK]
    exact dcomp_imp (vs := own.map (·.2)) ht.2 (fun i hi => by have := List.all_eq_true.mp hsub i hi; simpa using this) h
  · unfold isLoc at hx
    cases e : scope.names.lookup x with
    | none => rw [e] at hx; cases hx
    | some z =>
      rw [e] at hx
      cases z with
      | «local» => exact .inr (lookup_relS_keep (by intro z; cases z) e)
      | cell => exact .inl (by show (scope.names.lookup x == some .cell) = true; rw [e]; rfl)
      | _ => cases hx
  · cases iter <;> first | rfl | cases hs
/-- what a comprehension's store looks at -/
def swapD (sc scope : Scope) (pos : Pos) (y : Str) (py : Pos) : Bool := (match sc.names.lookup y with | some .local => true | _ => false) && (py.line == pos.line) && !(scope.names.any fun (n, k) => n == y && (k == .local || k == .cell))
theorem swD_true {kx vx : Expr} {gs : List Comprehension} {scope : Scope} {pos py : Pos} {y : Str} {l : Nat} {env : PySem.Env} (hk : env.scope.kind = .function) (h : swapD env.scope scope pos y py = true) : swapsWith (.DictComp kx vx gs scope pos) (some (.Name y py)) l env = pure true := by
  have hb : env.blockKind = .function := by unfold Env.blockKind; rw [hk]; rfl
  unfold swapD at h
  simp only [Bool.and_eq_true] at h
  obtain ⟨⟨h1, h2⟩, h3⟩ := h
  have hl : env.kindOf y = some .local := by
    unfold Env.kindOf
    cases e : env.scope.names.lookup y with
    | none => rw [e] at h1; cases h1
    | some z => rw [e] at h1; cases z <;> first | rfl | cases h1
  unfold swapsWith
  simp only [hb, hl, Expr.pos, h2, h3]
  rfl
theorem ds_setDc {nr : List Nat} {i : Nat} {y : Str} {py spos : Pos} {kx vx tg iter : Expr} {ifs : List Expr} {scope : Scope} {own : List (Str × Nat)} {pos : Pos} {t : Tg} {it : SemI} {c : SemB} {fk fv : Sem} (hc : cold = true) (hi : DI T N sc cold true k tg iter it) (hb : blkC N sc scope own = true)
    (htg : tgOk N (relS scope sc) (isLoc scope) tg = some t) (hsub : t.slots.all (fun i => (own.map (·.2)).contains i) = true) (hcs : DC T N (relS scope sc) cold false k ifs c) (hk : DE T N (relS scope sc) cold false k kx fk) (hv : DE T N (relS scope sc) cold false k vx fv) (hs : (match iter with | .Set .. => false | _ => true) = true)
    (hN : N[i]? = some y) (n : i ∉ nr) (hsw : swapD sc scope pos y py = true) :
    DS T N sc cold nr k (.Assign [.Name y py] (.DictComp kx vx [⟨tg, iter, ifs, 0⟩] scope pos) spos) (semSet i (semDComp (own.map (·.2)) t it c fk fv)) := fun X W σ0 F => by
  have hbk : BlkOk X.N X.env.scope scope own := by rw [F.eN, F.es]; exact blkOk_by hb
  have ht : ∀ (s : Shared) (H : Hp) (C : Addr) (cl : List (Str × Addr)) (fp : List Addr), PTs (X.blk s H scope (compEnvC scope cl C X.env) fp) ifs (tB T.K T.mg WF c) := fun s H C cl fp => by
    obtain ⟨t', h1, h2⟩ := hcs _ _ (F.blk s H scope C cl fp)
    exact ⟨fun pins s σ H Q I q => h1.run pins s σ H Q I (h2 σ H Q q)⟩
  have hu : X.A.units < cLine := by have := F.rm.un; omega
  have hloc : sc.names.lookup y = some .local := by
    simp only [swapD, Bool.and_eq_true] at hsw
    have h1 := hsw.1.1
    cases e : sc.names.lookup y with
    | none => rw [e] at h1; cases h1
    | some z => rw [e] at h1; cases z <;> first | rfl | cases h1
  refine PSimp (ps_setDcO (X := X) (i := i) (F.cal hc).1 hu (by rw [F.eN]; exact F.nd) (by rw [F.eN]; exact hN) (by rw [F.es]; exact hloc) (swD_true (F.tp rfl).2.2 (by rw [F.es]; exact hsw)) (hi X W F) hbk (fun s H C cl fp => pg_of (F.blk s H scope C cl fp) hc (fun x hx hl => ?_) tg t htg) ht (fun s H C cl fp => hk _ _ (F.blk s H scope C cl fp)) (fun s H C cl fp => hv _ _ (F.blk s H scope C cl fp)) (fun x => ?_)) fun De σ H h => ?_
  · unfold isLoc at hx
    cases e : scope.names.lookup x with
    | none => rw [e] at hx; cases hx
    | some z =>
      rw [e] at hx
      cases z with
      | «local» => exact .inr (lookup_relS_keep (by intro z; cases z) e)
      | cell => exact .inl (by show (scope.names.lookup x == some .cell) = true; rw [e]; rfl)
      | _ => cases hx
  · cases iter <;> first | rfl | cases hs
  · have h' : tR T.K T.mg W (semDComp (own.map (·.2)) t it c fk fv) σ H (fun x H1 => gName i x σ H1 De.nx) := set_imp n h
    rw [F.eK]
    exact dcomp_imp (vs := own.map (·.2)) (fun _ _ _ h => h) (fun i hi => by have := List.all_eq_true.mp hsub i hi; simpa using this) h'
theorem swD_false {kx vx : Expr} {gs : List Comprehension} {scope : Scope} {pos py : Pos} {y : Str} {l : Nat} {env : PySem.Env} (hk : env.scope.kind = .function) (h : swapD env.scope scope pos y py = false) : swapsWith (.DictComp kx vx gs scope pos) (some (.Name y py)) l env = pure false := by
  have hb : env.blockKind = .function := by unfold Env.blockKind; rw [hk]; rfl
  unfold swapsWith
  simp only [hb, Env.kindOf, Expr.pos]
  unfold swapD at h
  cases e : env.scope.names.lookup y with
  | none => rfl
  | some z =>
    rw [e] at h
    cases z with
    | «local» =>
      have h' : ((py.line == pos.line) && !(scope.names.any fun (n, k) => n == y && (k == .local || k == .cell))) = false := by simpa using h
      show pure ((true && true && (py.line == pos.line)) && !(scope.names.any fun (n, k) => n == y && (k == .local || k == .cell))) = pure false
      rw [Bool.true_and, Bool.true_and, h']
    | _ => rfl
theorem ds_setDn {nr : List Nat} {i : Nat} {y : Str} {py pos : Pos} {kx vx : Expr} {gs : List Comprehension} {scope : Scope} {dpos : Pos} {f : Sem} (he : DE T N sc cold true k (.DictComp kx vx gs scope dpos) f) (hN : N[i]? = some y) (hx : isLoc sc y = true) (n : i ∉ nr) (hs : swapD sc scope dpos y py = false) :
    DS T N sc cold nr k (.Assign [.Name y py] (.DictComp kx vx gs scope dpos) pos) (semSet i f) := fun X W σ0 F => by
  refine PSimp (ps_set (X := X) (by rw [F.eN]; exact F.nd) (by rw [F.eN]; exact hN) (by rw [F.es]; exact loc_of hx) (he X W F) ?_ (.inl (F.fn rfl y))) fun De σ H h => set_imp n h
  exact swD_false (F.tp rfl).2.2 (by rw [F.es]; exact hs)
end
end EV
end
section
set_option Elab.async false
set_option linter.all false
set_option maxRecDepth 100000
set_option autoImplicit false
set_option maxHeartbeats 1000000
/-! EV39: dict of a list of pairs whose keys are rows -/
namespace EV
open PySem PySem.Spec PyProof.Rows L2
def pairsD : List D → Option (List (D × D))
  | [] => some []
  | .tuple [k, v] :: ds => (pairsD ds).map ((k, v) :: ·)
  | _ => none
def isRowK (d : D) : Bool := match ksD d with
  | some (.tup _) => true
  | _ => false
def pDictP (xs : List D) : Option R := match xs with
  | [.list ds] => (pairsD ds).bind fun kvs => if (kvs.all fun kv => isRowK kv.1) = true then some (.own (.dic (dmerge [] kvs))) else none
  | _ => none
section
variable {K : PySem.W.Frag} {Φ : Hp}
theorem pairs_at : ∀ {ds : List D} {kvs : List (D × D)} {vs : List V}, pairsD ds = some kvs → (∀ kv ∈ kvs, isRowK kv.1 = true) → RpA K Φ vs ds →
    ∃ (ps : List Addr) (qs : List (List Key × Addr × V)), vs = ps.map V.ref ∧ ps.length = qs.length ∧ RpK K Φ ((qs.map fun q => (q.1, q.2.2)).map fun w => (kTD w.1, w.2)) kvs ∧
      ∀ (j : Nat) p q, ps[j]? = some p → qs[j]? = some q → Φ p = some (.tup [.ref q.2.1, q.2.2]) ∧ Φ q.2.1 = some (.tup (q.1.map kV))
  | [], kvs, vs, h, _, r => by
    cases h
    cases r
    exact ⟨[], [], rfl, rfl, .nil, fun j p q e => by simp at e⟩
  | d :: ds, kvs, vs, h, hk, r => by
    match d, h with
    | .tuple [k, v], h =>
      simp only [pairsD] at h
      cases e : pairsD ds with
      | none => rw [e] at h; cases h
      | some kvs' =>
        rw [e] at h
        cases h
        cases r with
        | cons t u =>
          obtain ⟨ps, qs, rfl, hl, rk, hg⟩ := pairs_at e (fun kv hkv => hk kv (List.mem_cons_of_mem _ hkv)) u
          have hk0 := hk (k, v) (List.mem_cons_self ..)
          unfold isRowK at hk0
          cases e2 : ksD k with
          | none => simp only [e2] at hk0; cases hk0
          | some z =>
            cases z with
            | one y => simp only [e2] at hk0; cases hk0
            | tup ks =>
              obtain ⟨es, rfl, e3⟩ := key_tup e2
              have ex := keysD_eq e3
              subst ex
              cases t with
              | tup sq ra z =>
                rename_i p xs
                cases ra with
                | cons r1 r2 =>
                  cases r2 with
                  | cons r3 r4 =>
                    cases r4
                    cases r1 with
                    | tup sq2 ra2 z2 =>
                      rename_i b ys
                      have ey : ys = ks.map kV := RpA.keys ra2
                      subst ey
                      refine ⟨p :: ps, (ks, b, _) :: qs, rfl, by simp [hl], .cons r3 rk, fun j p' q e1 e2 => ?_⟩
                      cases j with
                      | zero => cases e1; cases e2; exact ⟨sq, sq2⟩
                      | succ j => exact hg j p' q (by simpa using e1) (by simpa using e2)
end
/-- the pairs' own values -/
theorem pair_vals {X : Cx} {pins : List (Addr × Obj)} {σ : Sl} {H : Hp} {s : Shared} (I : Inv X pins σ H s) : ∀ (ps : List Addr) (qs : List (List Key × Addr × V)), ps.length = qs.length → (∀ (j : Nat) p q, ps[j]? = some p → qs[j]? = some q → H p = some (.tup [.ref q.2.1, q.2.2]) ∧ H q.2.1 = some (.tup (q.1.map kV))) →
    ∃ us : List (List Key × Addr × Value), us.length = qs.length ∧ KT H (qs.map fun q => (q.1, q.2.2)) us ∧ ∀ (j : Nat) p u, ps[j]? = some p → us[j]? = some u → s.heap.IsTuple p #[.ref u.2.1, u.2.2] ∧ H u.2.1 = some (.tup (u.1.map kV))
  | [], [], _, _ => ⟨[], rfl, .nil, fun j p u e => by simp at e⟩
  | p :: ps, q :: qs, hl, h => by
    obtain ⟨us, l1, kt, hg⟩ := pair_vals I ps qs (by simpa using hl) fun j p' q' e1 e2 => h (j + 1) p' q' (by simpa using e1) (by simpa using e2)
    obtain ⟨h1, h2⟩ := h 0 p q rfl rfl
    obtain ⟨its, rv, pt, _⟩ := I.tuple (a := p) (.inl (.inl h1))
    obtain ⟨u0, u1, e, ra, rb⟩ := Vals.two rv
    subst e
    obtain rfl : u0 = Value.ref q.2.1 := ra
    refine ⟨(q.1, q.2.1, u1) :: us, by simp [l1], .cons ⟨rfl, h2, rb⟩ kt, fun j p' u e1 e2 => ?_⟩
    cases j with
    | zero => cases e1; cases e2; exact ⟨pt, h2⟩
    | succ j => exact hg j p' u (by simpa using e1) (by simpa using e2)
  | [], _ :: _, hl, _ => by cases hl
  | _ :: _, [], hl, _ => by cases hl
section
variable {T : Tx} {N : List Str} {sc : Scope} {top : Bool} {k : Nat}
theorem c_dictP : ∀ X W, Fx T N sc true top k X W → CallR X (.type "dict") (rPn T.K pDictP) := fun X W F pins s σ H xs us Q I r ⟨Φ, ds, q0, l, hd, hp, q⟩ => by
  unfold pDictP at hp
  split at hp
  · rename_i ds'
    cases e : pairsD ds' with
    | none => rw [e] at hp; cases hp
    | some kvs =>
      rw [e] at hp
      simp only [Option.bind] at hp
      split at hp
      · rename_i hk
        cases hp
        obtain ⟨v, rfl, hv⟩ := hd.one
        obtain ⟨a, vs, rfl, sq, ra, z⟩ := hv.list l
        obtain ⟨ps, qs, rfl, hlen, rk, hg⟩ := pairs_at e (fun kv hkv => List.all_eq_true.mp hk kv hkv) ra
        obtain ⟨u, rfl, rx⟩ := vals1 r
        cases rx
        obtain ⟨its, rv, pl, hz⟩ := I.list (a := a) (by rw [F.eK]; exact sq)
        have ei := refs_at rv
        subst ei
        rw [List.length_map] at hz
        obtain ⟨us, l1, kt, hu⟩ := pair_vals I ps qs hlen fun j p q e1 e2 => ⟨l _ _ (hg j p q e1 e2).1, l _ _ (hg j p q e1 e2).2⟩
        obtain ⟨o, n, ho, hc, hdn, hdat⟩ := pl
        have P := PairArg.list (prog := X.prog) (w := X.w) a (ps.map Value.ref).toArray (fun j => ps.getD j 0) (us.map fun u => (Value.ref u.2.1, u.2.2))
        have hul : us.length = ps.length := by omega
        refine call_dict_pairsH (knd := tupleKind (mixKind X.prog X.w)) (ps := us) P (F.cal rfl).2.1 ?_ ⟨⟨o, n, ho, hc, hdn, hdat⟩, by simp [hul], fun j k' v' ej => ?_⟩ ⟨by simp, fun i key v' hrel => ?_⟩ (fun h' hkeep x hx => ?_) (by simp; omega) fun h' tk hd' hkeep => ?_
        · have := F.rm.un
          show X.A.in1.in1.units < cLine
          show X.A.units + 1 + 1 < cLine
          omega
        · obtain ⟨u, hu', e2⟩ : ∃ u, us[j]? = some u ∧ (Value.ref u.2.1, u.2.2) = (k', v') := by
            rw [List.getElem?_map] at ej
            cases q : us[j]? with
            | none => rw [q] at ej; cases ej
            | some u => rw [q] at ej; exact ⟨u, rfl, Option.some.inj ej⟩
          cases e2
          have hj : j < ps.length := by have := (List.getElem?_eq_some_iff.mp hu').1; omega
          have ep := List.getElem?_eq_getElem hj
          have eg : ps.getD j 0 = ps[j] := by rw [List.getD_eq_getElem?_getD, ep]; rfl
          exact ⟨by simp [ep, eg], by
            show PairAt s.heap (ps.getD j 0) _ _
            rw [eg]
            exact .inl (hu j _ u ep hu').1⟩
        · have hrel : (us.map fun u => (Value.ref u.2.1, u.2.2))[i]? = some (key, v') := hrel
          rw [List.getElem?_map] at hrel
          cases q : us[i]? with
          | none => rw [q] at hrel; cases hrel
          | some u => rw [q] at hrel; cases hrel; exact ⟨u.1, u.2.1, rfl, rfl⟩
        · obtain ⟨j, hj, rfl⟩ := List.mem_iff_getElem.mp hx
          have hjp : j < ps.length := by omega
          have eb := (hu j _ _ (List.getElem?_eq_getElem hjp) (List.getElem?_eq_getElem hj)).2
          obtain ⟨ob, items, m, g1, g2⟩ := key_of I.hok eb
          exact ⟨ob, items, m, hkeep _ _ (Nat.ne_of_lt (Heap.lt_size g1)) (by simp) g1, g2⟩
        · have hm : (s.heap.objs.size == sysModules) = false := beq_eq_false_iff_ne.mpr (Nat.ne_of_gt I.big)
          have hq : qs.length ≤ sizeLine := by omega
          have hlen2 : (mergeKs [] (qs.map fun q => (q.1, q.2.2))).length ≤ sizeLine := by
            have := mergeKs_length (qs.map fun q => (q.1, q.2.2)) []
            simp only [List.length_nil, List.length_map] at this
            omega
          obtain ⟨q1, es, ep, hq1, g2, g3, g4, _, g5⟩ := hd'
          have nH : H s.heap.objs.size = none := I.hok.fresh (Nat.le_refl _)
          refine ⟨.ref s.heap.objs.size, upd H s.heap.objs.size (.dT (mergeKs [] (qs.map fun q => (q.1, q.2.2)))), I.laid (t' := tk) (fun b o e => hkeep b o (by simp) e) (Nat.le_refl _) (show ObjOk X.prog X.w _ _ _ (.dT (mergeKs [] (qs.map fun q => (q.1, q.2.2)))) from ⟨hlen2, hm, _, (KT.merge kt .nil).keeps fun c ys ec => ?_, q1, es, ep, hq1, g2, g3, g4, g5⟩), rfl, q.owned l nH (.inr ⟨_, upd_same, RpK.merge kfT (qs.map fun q => (q.1, q.2.2)) rk .nil⟩)⟩
          rw [upd_ne (fun z => by subst z; rw [nH] at ec; cases ec)]
          exact ec
      · cases hp
  · cases hp
end
end EV
end
section
set_option Elab.async false
set_option linter.all false
set_option maxRecDepth 100000
set_option autoImplicit false
/-! EV40: rows in order, sets of rows -/
namespace EV
open PySem PySem.Spec PyProof.Rows L2
open PySem.W (alike alikeAll dataLt keyToks keyToksAll)
abbrev ltR (a b : List Int) : Bool := HT.lexLt a b
theorem ltR_irr : ∀ a : List Int, ltR a a = false
  | [] => rfl
  | x :: a => by unfold ltR; rw [HT.lexLt_cons, if_pos rfl]; exact ltR_irr a
theorem toks_rows : ∀ a b : List Int, PyProof.Rows.lexLt itemOrd (keyToksAll (a.map PyData.int)) (keyToksAll (b.map PyData.int)) = ltR a b
  | [], [] => rfl
  | [], y :: b => rfl
  | x :: a, [] => rfl
  | x :: a, y :: b => by
    have ih := toks_rows a b
    unfold ltR at *
    rw [HT.lexLt_cons]
    simp only [List.map_cons, keyToksAll, keyToks, List.cons_append, List.nil_append]
    have e : ∀ (p q : Int ⊕ List Nat) (l m : List (Int ⊕ List Nat)), PyProof.Rows.lexLt itemOrd (p :: l) (q :: m) = (itemLt p q || (!itemLt q p && PyProof.Rows.lexLt itemOrd l m)) := fun _ _ _ _ => rfl
    rw [e, e, ih]
    simp only [itemLt]
    by_cases c : x = y
    · subst c; simp
    · rw [if_neg c]
      by_cases d : x < y
      · simp [d]
      · have : y < x := by omega
        simp [d, this]
theorem dataLt_rows (a b : List Int) : dataLt (rwD a) (rwD b) = ltR a b := by
  unfold rwD
  rw [PySem.W.dataLt_tuple, toks_rows]
theorem pLt_rows (a b : List Int) : pLt (rwD a) (rwD b) = some (.val (.bool (ltR a b))) := by
  unfold rwD pLt
  simp only [intsD_map, Option.bind]
def sortR (l : List (List Int)) : List (List Int) := l.mergeSort fun a b => !ltR b a
theorem sortLe_rows (a b : List Int) : PySem.W.sortLe (PyProof.Rows.listOrd PyProof.Rows.itemOrd) false keyToks (rwD a) (rwD b) = !ltR b a := by
  show (!PyProof.Rows.lexLt itemOrd (keyToks (rwD b)) (keyToks (rwD a))) = _
  unfold rwD
  simp only [keyToks]
  rw [toks_rows]
theorem sortD_rows (l : List (List Int)) : sortD (l.map rwD) = (sortR l).map rwD := by
  unfold sortD sortR
  exact (List.map_mergeSort fun a _ b _ => (sortLe_rows a b).symm).symm
theorem sortR_len (l : List (List Int)) : (sortR l).length = l.length := List.length_mergeSort _
theorem sortR_mem {l : List (List Int)} {r : List Int} : r ∈ sortR l ↔ r ∈ l := List.mem_mergeSort
theorem sortR_perm (l : List (List Int)) : (sortR l).Perm l := List.mergeSort_perm _ _
/-- strictly upwards -/
def UpR (l : List (List Int)) : Prop := l.Pairwise fun a b => ltR a b = true
theorem ltR_conn {a b : List Int} (h1 : ltR a b = false) (h2 : ltR b a = false) : a = b := by
  have e1 := (toks_rows a b).trans h1
  have e2 := (toks_rows b a).trans h2
  have := lex_total (O := itemOrd) _ _ e1 e2
  have e : PyData.eqv (rwD a) (rwD b) = true := by
    by_cases c : a = b
    · subst c; unfold rwD; rw [PyData.eqv, eqvAll_ints]; simp
    · exfalso
      have inj : ∀ a b : List Int, keyToksAll (a.map PyData.int) = keyToksAll (b.map PyData.int) → a = b := by
        intro a
        induction a with
        | nil => intro b h; cases b with
          | nil => rfl
          | cons y b => simp [keyToksAll] at h
        | cons x a ih => intro b h; cases b with
          | nil => simp [keyToksAll] at h
          | cons y b =>
            simp only [List.map_cons, keyToksAll, keyToks, List.cons_append, List.nil_append, List.cons.injEq, Sum.inl.injEq, true_and] at h
            rw [h.1, ih b h.2]
      exact c (inj a b this)
  unfold rwD at e
  rw [PyData.eqv, eqvAll_ints] at e
  exact of_decide_eq_true e
theorem sortR_up {l : List (List Int)} (h : l.Nodup) : UpR (sortR l) := by
  have tr := PySem.W.sortLe_total (PyProof.Rows.listOrd PyProof.Rows.itemOrd) false keyToks
  have p : (sortR l).Pairwise fun a b => (!ltR b a) = true := by
    unfold sortR
    refine List.pairwise_mergeSort (fun a b c h1 h2 => ?_) (fun a b => ?_) l
    · have := tr.trans (rwD a) (rwD b) (rwD c) (by rw [sortLe_rows]; exact h1) (by rw [sortLe_rows]; exact h2)
      rw [sortLe_rows] at this; exact this
    · have := tr.total (rwD a) (rwD b)
      rw [sortLe_rows, sortLe_rows] at this
      simpa using this
  have n : (sortR l).Pairwise (· ≠ ·) := (sortR_perm l).nodup_iff.mpr h
  unfold UpR
  refine (p.and n).imp fun {a b} ⟨h1, h2⟩ => ?_
  cases c : ltR a b with
  | true => rfl
  | false =>
    exfalso
    exact h2 (ltR_conn c (by simpa using h1))
theorem UpR.nodup {l : List (List Int)} (h : UpR l) : l.Nodup := by
  refine List.Pairwise.imp (fun {a b} e => ?_) h
  rintro rfl
  rw [ltR_irr] at e; cases e
theorem alike_ints : ∀ a b : List Int, alikeAll (a.map PyData.int) (b.map PyData.int) = true
  | [], b => by cases b <;> rfl
  | x :: a, [] => rfl
  | x :: a, y :: b => by
    simp only [List.map_cons, alikeAll, alike, alike_ints a b, Bool.and_self]
theorem sortOk_rows {l : List (List Int)} (h : ∀ r ∈ l, r ≠ []) (hl : l.length ≤ 1000000) : sortOk (l.map rwD) = true := by
  unfold sortOk
  simp only [Bool.and_eq_true, Bool.or_eq_true, List.all_eq_true]
  refine ⟨⟨⟨fun d hd e he => ?_, .inl fun d hd => ?_⟩, fun d hd => ?_⟩, szOk_of (by simpa using hl)⟩
  · obtain ⟨i, -, rfl⟩ := List.mem_map.mp hd
    obtain ⟨j, -, rfl⟩ := List.mem_map.mp he
    exact alike_ints i j
  · obtain ⟨i, hi, rfl⟩ := List.mem_map.mp hd
    cases i with
    | nil => exact (h _ hi rfl).elim
    | cons x i => rfl
  · obtain ⟨i, -, rfl⟩ := List.mem_map.mp hd
    exact shp_tints i
theorem pSorted_rows {l : List (List Int)} (h : ∀ r ∈ l, r ≠ []) (hl : l.length ≤ 1000000) : pSorted [.list (l.map rwD)] = some (.own (.lst ((sortR l).map rwD))) := by
  unfold pSorted iterD
  simp only [Option.bind, sortOk_rows h hl, if_true, sortD_rows]
/-! rows within rows -/
theorem shp_row (r : List Int) : shp (rwD r) = true := shp_tints r
theorem lay_row (r : List Int) : PyData.canLay0 (rwD r) = true ∧ PyData.depth (rwD r) ≤ 1 := ⟨by simp [rwD, PyData.canLay0, lay_ints], by simp [rwD, PyData.depth, dep_ints]⟩
theorem shp_rowsL (l : List (List Int)) : shp (.list (l.map rwD)) = true := shp_list (W := 1) (by decide) fun d hd => by
  obtain ⟨r, -, rfl⟩ := List.mem_map.mp hd; exact lay_row r
theorem shp_rowsT (l : List (List Int)) : shp (.tuple (l.map rwD)) = true := by
  have := shp_iff.mp (shp_rowsL l)
  exact shp_iff.mpr ⟨by simpa [PyData.canLay0] using this.1, by simpa [PyData.depth] using this.2⟩
theorem any_rows (l : List (List Int)) (r : List Int) : ((l.map rwD).any fun z => PyData.eqv z (rwD r)) = decide (r ∈ l) := by
  rw [List.any_map]
  have e : ((fun z => PyData.eqv z (rwD r)) ∘ rwD) = fun q => decide (q = r) := by
    funext q
    exact eqk_rows q r
  rw [e]
  induction l with
  | nil => simp
  | cons q l ih =>
    rw [List.any_cons, ih]
    by_cases c : q = r
    · subst c; simp
    · have c' : ¬ r = q := fun z => c z.symm
      simp [c, c']
theorem in_rowsL (l : List (List Int)) (r : List Int) : pIn (rwD r) (.list (l.map rwD)) = some (.val (.bool (decide (r ∈ l)))) := by
  unfold pIn inD
  simp only [shp_row, shp_rowsL, Bool.and_self, if_true, any_rows, Option.map]
theorem in_rowsT (l : List (List Int)) (r : List Int) : pIn (rwD r) (.tuple (l.map rwD)) = some (.val (.bool (decide (r ∈ l)))) := by
  unfold pIn inD
  simp only [shp_row, shp_rowsT, Bool.and_self, if_true, any_rows, Option.map]
theorem notIn_rowsL (l : List (List Int)) (r : List Int) : pNotIn (rwD r) (.list (l.map rwD)) = some (.val (.bool (!decide (r ∈ l)))) := by
  unfold pNotIn inD
  simp only [shp_row, shp_rowsL, Bool.and_self, if_true, any_rows, Option.map]
theorem notIn_rowsT (l : List (List Int)) (r : List Int) : pNotIn (rwD r) (.tuple (l.map rwD)) = some (.val (.bool (!decide (r ∈ l)))) := by
  unfold pNotIn inD
  simp only [shp_row, shp_rowsT, Bool.and_self, if_true, any_rows, Option.map]
theorem notIn_rows {ws : List (List Int × D)} {r : List Int} : pNotIn (rwD r) (.dict (dicR ws)) = some (.val (.bool (!(getR ws r).isSome))) := by
  unfold pNotIn inD dlook
  simp only [ks_row, Option.bind, ksOk_rows, if_true, dget_rows]
  rfl
/-! dicts that are sets of rows: each row tells v -/
def addR (v : D) (ws : List (List Int × D)) (l : List (List Int)) : List (List Int × D) := l.foldl (fun ws r => putR ws r v) ws
theorem getR_addR (v : D) (q : List Int) : ∀ (l : List (List Int)) (ws : List (List Int × D)), (getR (addR v ws l) q).isSome = (decide (q ∈ l) || (getR ws q).isSome)
  | [], ws => by simp [addR]
  | r :: l, ws => by
    show (getR (addR v (putR ws r v) l) q).isSome = _
    rw [getR_addR v q l, getR_put]
    by_cases c : r = q
    · subst c; simp
    · have c' : ¬ q = r := fun z => c z.symm
      simp [c, c']
theorem addR_len (v : D) : ∀ (l : List (List Int)) (ws : List (List Int × D)), (addR v ws l).length ≤ ws.length + l.length
  | [], ws => by simp [addR]
  | r :: l, ws => by
    have h1 := addR_len v l (putR ws r v)
    have h2 := putR_len ws r v
    show (addR v (putR ws r v) l).length ≤ _
    simp only [List.length_cons]; omega
theorem dcLoop_rows {vs : List Nat} {t : Tg} {fk fv : Sem} (v : D) (S : Sg) : ∀ (l : List (List Int)) (ws : List (List Int × D)) (s : Sg), unS vs s = S → ws.length + l.length ≤ 1000000 →
    (∀ r ∈ l, ∃ s1, t.bind (rwD r) S = some s1 ∧ ∃ s2, fk s1 = .ok (.val (rwD r)) s2 ∧ ∃ s3, fv s2 = .ok (.val v) s3 ∧ unS vs s3 = S) → dcLoop vs t (fun s => .ok true s) fk fv (l.map rwD) (dicR ws) s = .ok (dicR (addR v ws l)) S
  | [], ws, s, h, _, _ => by simp only [List.map_nil, dcLoop, h, addR, List.foldl_nil]
  | r :: l, ws, s, h, hl, st => by
    obtain ⟨s1, e1, s2, e2, s3, e3, e4⟩ := st r (List.mem_cons_self ..)
    simp only [List.length_cons] at hl
    have e5 := setO_rows (ws := ws) r v (by omega)
    have ih := dcLoop_rows (vs := vs) (t := t) (fk := fk) (fv := fv) v S l (putR ws r v) s3 e4 (by have := putR_len ws r v; omega) fun q hq => st q (List.mem_cons_of_mem _ hq)
    rw [List.map_cons]
    simp only [dcLoop, h, e1, Re.bindN, e2, e3, e5, if_true]
    exact ih
theorem pairs_rows (v : D) : ∀ l : List (List Int), pairsD (l.map fun r => .tuple [rwD r, v]) = some (l.map fun r => (rwD r, v))
  | [] => rfl
  | r :: l => by simp only [List.map_cons, pairsD, pairs_rows v l, Option.map]
theorem merge_rows (v : D) : ∀ (l : List (List Int)) (ws : List (List Int × D)), dmerge (dicR ws) (l.map fun r => (rwD r, v)) = dicR (addR v ws l)
  | [], ws => rfl
  | r :: l, ws => by
    have ih := merge_rows v l (putR ws r v)
    unfold dmerge addR at *
    rw [List.map_cons, List.foldl_cons, List.foldl_cons, dput_rows]
    exact ih
theorem pDictP_rows (v : D) (l : List (List Int)) : pDictP [.list (l.map fun r => .tuple [rwD r, v])] = some (.own (.dic (dicR (addR v [] l)))) := by
  unfold pDictP
  have : ((l.map fun r => (rwD r, v)).all fun kv => isRowK kv.1) = true := by
    rw [List.all_map, List.all_eq_true]
    intro r _
    show isRowK (rwD r) = true
    unfold isRowK
    rw [ks_row]
  have m := merge_rows v l []
  have m' : dmerge [] (l.map fun r => (rwD r, v)) = _ := m
  simp only [pairs_rows, Option.bind, this, if_true, m']
/-- the keys -/
def keysR (ws : List (List Int × D)) : List (List Int) := ws.map (·.1)
theorem getR_keys (ws : List (List Int × D)) (q : List Int) : (getR ws q).isSome = decide (q ∈ keysR ws) := by
  unfold getR keysR
  induction ws with
  | nil => simp
  | cons w ws ih =>
    rw [List.find?_cons]
    by_cases c : w.1 = q
    · simp [c]
    · have c' : ¬ q = w.1 := fun z => c z.symm
      simp only [decide_eq_false c, List.map_cons, List.mem_cons, c', false_or]
      exact ih
theorem keysR_put (ws : List (List Int × D)) (r : List Int) (v : D) : keysR (putR ws r v) = if r ∈ keysR ws then keysR ws else keysR ws ++ [r] := by
  unfold keysR putR
  have e : (ws.any fun w => decide (w.1 = r)) = decide (r ∈ ws.map (·.1)) := by
    rw [show decide (r ∈ ws.map (·.1)) = (getR ws r).isSome from (getR_keys ws r).symm, getR]
    induction ws with
    | nil => rfl
    | cons w ws ih =>
      rw [List.any_cons, List.find?_cons]
      by_cases c : w.1 = r
      · simp [c]
      · simp only [decide_eq_false c, Bool.false_or]; exact ih
  rw [e]
  by_cases c : r ∈ ws.map (·.1)
  · rw [if_pos (by simpa using c), if_pos c, List.map_map]
    refine List.map_congr_left fun w _ => ?_
    simp only [Function.comp]
    split
    · rename_i h; exact h ▸ rfl
    · rfl
  · rw [if_neg (by simpa using c), if_neg c, List.map_append]
    rfl
theorem keysR_nodup {ws : List (List Int × D)} (r : List Int) (v : D) (h : (keysR ws).Nodup) : (keysR (putR ws r v)).Nodup := by
  rw [keysR_put]
  split
  · exact h
  · rename_i c
    refine List.nodup_append.mpr ⟨h, by simp, fun a ha b hb => ?_⟩
    rw [List.mem_singleton] at hb
    subst hb
    rintro rfl
    exact c ha
theorem keysR_addR {v : D} : ∀ (l : List (List Int)) {ws : List (List Int × D)}, (keysR ws).Nodup → (keysR (addR v ws l)).Nodup
  | [], ws, h => h
  | r :: l, ws, h => keysR_addR l (ws := putR ws r v) (keysR_nodup r v h)
theorem mem_keysR_addR {v : D} {l : List (List Int)} {ws : List (List Int × D)} {q : List Int} : q ∈ keysR (addR v ws l) ↔ q ∈ l ∨ q ∈ keysR ws := by
  have := getR_addR v q l ws
  rw [getR_keys, getR_keys, ← Bool.decide_or] at this
  exact decide_eq_decide.mp this
theorem pSorted_dict {ws : List (List Int × D)} (h : ∀ r ∈ keysR ws, r ≠ []) (hl : ws.length ≤ 1000000) : pSorted [.dict (dicR ws)] = some (.own (.lst ((sortR (keysR ws)).map rwD))) := by
  have e : (dicR ws).map (·.1) = (keysR ws).map rwD := by unfold dicR keysR; rw [List.map_map, List.map_map]; rfl
  have l : (keysR ws).length ≤ 1000000 := by unfold keysR; simpa using hl
  have s := sortOk_rows h l
  unfold pSorted iterD
  simp only [Option.bind, e, s, if_true, sortD_rows]
end EV
end
section
set_option Elab.async false
set_option linter.all false
set_option maxRecDepth 100000
set_option autoImplicit false
/-! EV41: runs, step by step: the state is told by the goal itself -/
namespace EV
open PySem PySem.Spec PyProof.Rows L2
def Wp (r : SRe) (Q : SRe → Prop) : Prop := Q r
theorem wp_nx {s : Sg} {rest : SemS} {Q : SRe → Prop} : Wp (thenS (.nx s) rest) Q ↔ Wp (rest s) Q := Iff.rfl
theorem wp_rt {s : Sg} {r : R} {Q : SRe → Prop} : Wp (.rt r s) Q ↔ Q (.rt r s) := Iff.rfl
theorem wp_ex {s : Sg} {x : Xc} {Q : SRe → Prop} : Wp (.ex x s) Q ↔ Q (.ex x s) := Iff.rfl
theorem wp_end {s : Sg} {Q : SRe → Prop} : Wp (.nx s) Q ↔ Q (.nx s) := Iff.rfl
theorem wp_cs {m : Nat} {nr : List Nat} {f : SemS} {args : List SV} (P : CRe → Prop) (h : Wp (f (args ++ List.replicate (m - args.length) SV.un)) fun z => P (outC nr args.length z)) : P (mkCs m nr f args) := by
  rw [mkCs_eq]; exact h
theorem wp_seq {f g : SemS} {s : Sg} {Q : SRe → Prop} (h : Wp (thenS (f s) g) Q) : Wp (semSeqS f g s) Q := by rw [seqS_eq]; exact h
theorem wp_mono {r : SRe} {Q Q' : SRe → Prop} (h : Wp r Q) (i : ∀ z, Q z → Q' z) : Wp r Q' := i _ h
theorem wp_eq {r r' : SRe} {Q : SRe → Prop} (e : r = r') (h : Wp r' Q) : Wp r Q := e ▸ h
/-- a turn of a loop -/
def bodyS (t : Tg) (b : SemS) (d : D) (s : Sg) : SRe := match t.bind d s with
  | some s1 => (match b s1 with
    | .ct s2 => .nx s2
    | r => r)
  | none => .bad
def ctN (r : SRe) : SRe := match r with
  | .ct s2 => .nx s2
  | r => r
theorem bodyS_eq (t : Tg) (b : SemS) (d : D) (s : Sg) : bodyS t b d s = match t.bind d s with
  | some s1 => ctN (b s1)
  | none => .bad := rfl
theorem ctN_nx (s : Sg) : ctN (.nx s) = .nx s := rfl
theorem ctN_ct (s : Sg) : ctN (.ct s) = .nx s := rfl
theorem ctN_bk (s : Sg) : ctN (.bk s) = .bk s := rfl
theorem ctN_rt (r : R) (s : Sg) : ctN (.rt r s) = .rt r s := rfl
theorem ctN_ex (r : Xc) (s : Sg) : ctN (.ex r s) = .ex r s := rfl
theorem ctN_ite (c : Prop) [Decidable c] (a b : SRe) : ctN (if c then a else b) = if c then ctN a else ctN b := by split <;> rfl
/-- the loop, turn by turn, by what is done -/
theorem wp_for {α : Type} {t : Tg} {b : SemS} {l : List α} {h : α → D} {s : Sg} {rest : SemS} {Q : SRe → Prop} (P : List α → Sg → Prop) (h0 : P [] s)
    (st : ∀ done d todo s', l = done ++ d :: todo → P done s' → (∃ s2, bodyS t b (h d) s' = .nx s2 ∧ P (done ++ [d]) s2) ∨ (∃ s2, bodyS t b (h d) s' = .bk s2 ∧ Wp (rest s2) Q) ∨ (∃ r s2, bodyS t b (h d) s' = .rt r s2 ∧ Q (.rt r s2)) ∨ (∃ x s2, bodyS t b (h d) s' = .ex x s2 ∧ Q (.ex x s2)))
    (k : ∀ s', P l s' → Wp (rest s') Q) : Wp (thenS (forLoop t b (l.map h) s) rest) Q := by
  suffices H : ∀ (todo done : List α) (s' : Sg), l = done ++ todo → P done s' → Wp (thenS (forLoop t b (todo.map h) s') rest) Q from H l [] s rfl h0
  intro todo
  induction todo with
  | nil => intro done s' e p; rw [List.append_nil] at e; subst e; exact k _ p
  | cons d todo ih =>
    intro done s' e p
    have := st done d todo s' e p
    simp only [List.map_cons, forLoop]
    unfold bodyS at this
    cases eb : t.bind (h d) s' with
    | none => rw [eb] at this; rcases this with ⟨_, z, _⟩ | ⟨_, z, _⟩ | ⟨_, _, z, _⟩ | ⟨_, _, z, _⟩ <;> cases z
    | some s1 =>
      rw [eb] at this
      simp only at this ⊢
      have go : ∀ s2, P (done ++ [d]) s2 → Wp (thenS (forLoop t b (todo.map h) s2) rest) Q := fun s2 p2 => ih (done ++ [d]) s2 (by rw [e, List.append_assoc]; rfl) p2
      cases er : b s1 with
      | nx s2 =>
        rw [er] at this
        rcases this with ⟨s2', z, p2⟩ | ⟨_, z, _⟩ | ⟨_, _, z, _⟩ | ⟨_, _, z, _⟩ <;> cases z
        exact go _ p2
      | ct s2 =>
        rw [er] at this
        rcases this with ⟨s2', z, p2⟩ | ⟨_, z, _⟩ | ⟨_, _, z, _⟩ | ⟨_, _, z, _⟩ <;> cases z
        exact go _ p2
      | bk s2 =>
        rw [er] at this
        rcases this with ⟨_, z, _⟩ | ⟨_, z, p2⟩ | ⟨_, _, z, _⟩ | ⟨_, _, z, _⟩ <;> cases z
        exact p2
      | rt r s2 =>
        rw [er] at this
        rcases this with ⟨_, z, _⟩ | ⟨_, z, _⟩ | ⟨_, _, z, p2⟩ | ⟨_, _, z, _⟩ <;> cases z
        exact p2
      | ex r s2 =>
        rw [er] at this
        rcases this with ⟨_, z, _⟩ | ⟨_, z, _⟩ | ⟨_, _, z, _⟩ | ⟨_, _, z, p2⟩ <;> cases z
        exact p2
      | bad =>
        rw [er] at this
        rcases this with ⟨_, z, _⟩ | ⟨_, z, _⟩ | ⟨_, _, z, _⟩ | ⟨_, _, z, _⟩ <;> cases z
/-- a loop that folds: S what the slots hold at a, junk x -/
theorem wp_fold {α A B : Type} {t : Tg} {b : SemS} {l : List α} {h : α → D} {s : Sg} {rest : SemS} {Q : SRe → Prop} (S : Sg → A → B → Sg) (step : A → α → A) (I : List α → A → Prop) (a0 : A) (x0 : B) (hs : s = S s a0 x0) (i0 : I [] a0)
    (st : ∀ done d todo a x, l = done ++ d :: todo → I done a → ∃ x', bodyS t b (h d) (S s a x) = .nx (S s (step a d) x') ∧ I (done ++ [d]) (step a d))
    (k : ∀ x', I l (l.foldl step a0) → Wp (rest (S s (l.foldl step a0) x')) Q) : Wp (thenS (forLoop t b (l.map h) s) rest) Q := by
  refine wp_for (fun done s' => ∃ x, s' = S s (done.foldl step a0) x ∧ I done (done.foldl step a0)) ⟨x0, hs, i0⟩ (fun done d todo s' e ⟨x, es, i⟩ => .inl ?_) fun s' ⟨x, es, i⟩ => ?_
  · obtain ⟨x', e1, e2⟩ := st done d todo _ x e i
    subst es
    refine ⟨_, e1, x', ?_, ?_⟩
    · rw [List.foldl_append]; rfl
    · rw [List.foldl_append]; exact e2
  · subst es; exact k x i
theorem wp_forNil {t : Tg} {b : SemS} {s : Sg} {rest : SemS} {Q : SRe → Prop} (k : Wp (rest s) Q) : Wp (thenS (forLoop t b [] s) rest) Q := k
theorem wp_forCons {t : Tg} {b : SemS} {d : D} {ds : List D} {s s2 : Sg} {rest : SemS} {Q : SRe → Prop} (e : bodyS t b d s = .nx s2) (k : Wp (thenS (forLoop t b ds s2) rest) Q) : Wp (thenS (forLoop t b (d :: ds) s) rest) Q := by
  unfold bodyS at e
  simp only [forLoop]
  cases eb : t.bind d s with
  | none => rw [eb] at e; cases e
  | some s1 =>
    rw [eb] at e
    simp only at e ⊢
    cases er : b s1 with
    | nx s3 => rw [er] at e; cases e; exact k
    | ct s3 => rw [er] at e; cases e; exact k
    | bk s3 => rw [er] at e; cases e
    | rt r s3 => rw [er] at e; cases e
    | ex r s3 => rw [er] at e; cases e
    | bad => rw [er] at e; cases e
/-- a while loop: n falls with each turn -/
theorem wp_while {c : SemB} {b : SemS} {s : Sg} {rest : SemS} {Q : SRe → Prop} (P : Nat → Sg → Prop) (n : Nat) (hn : n < whileMost) (h0 : P n s)
    (st : ∀ n s', P n s' → (∃ s2, c s' = .ok false s2 ∧ Wp (rest s2) Q) ∨ (∃ s1, c s' = .ok true s1 ∧ ((∃ s2 n', n' < n ∧ ctN (b s1) = .nx s2 ∧ P n' s2) ∨ (∃ s2, b s1 = .bk s2 ∧ Wp (rest s2) Q) ∨ (∃ r s2, b s1 = .rt r s2 ∧ Q (.rt r s2)) ∨ (∃ x s2, b s1 = .ex x s2 ∧ Q (.ex x s2))))) : Wp (thenS (whileLoop c b whileMost s) rest) Q := by
  generalize whileMost = m at *
  induction m generalizing n s with
  | zero => omega
  | succ m ih =>
    rcases st n s h0 with ⟨s2, e, k⟩ | ⟨s1, e, h⟩
    · simp only [whileLoop, e, bThen_ok]; exact k
    · have un : whileLoop c b (m + 1) s = (match ctN (b s1) with
        | .nx s2 => whileLoop c b m s2
        | .bk s2 => .nx s2
        | r => r) := by
        simp only [whileLoop, e, bThen_ok, if_true]
        cases b s1 <;> rfl
      rw [un]
      rcases h with ⟨s2, n', l, e2, p2⟩ | ⟨s2, e2, k⟩ | ⟨r, s2, e2, k⟩ | ⟨x, s2, e2, k⟩
      · rw [e2]; exact ih n' p2 (by omega)
      · rw [e2]; exact k
      · rw [e2]; exact k
      · rw [e2]; exact k
/-! ### comprehensions -/
def elemS (vs : List Nat) (t : Tg) (f : Sem) (d : D) (s : Sg) : Re D := match t.bind d s with
  | some s1 => (match f s1 with
    | .ok (.val y) s2 => .ok y (unS vs s2)
    | _ => .bad)
  | none => .bad
def valU (vs : List Nat) (r : Re R) : Re D := match r with
  | .ok (.val y) s2 => .ok y (unS vs s2)
  | _ => .bad
theorem elemS_eq (vs : List Nat) (t : Tg) (f : Sem) (d : D) (s : Sg) : elemS vs t f d s = match t.bind d s with
  | some s1 => valU vs (f s1)
  | none => .bad := rfl
theorem valU_ok (vs : List Nat) (y : D) (s : Sg) : valU vs (.ok (.val y) s) = .ok y (unS vs s) := rfl
theorem valU_ite (vs : List Nat) (c : Prop) [Decidable c] (a b : Re R) : valU vs (if c then a else b) = if c then valU vs a else valU vs b := by split <;> rfl
theorem elemS_ok {vs : List Nat} {t : Tg} {f : Sem} {d y : D} {s s' : Sg} (h : elemS vs t f d s = .ok y s') : ∃ s1, t.bind d s = some s1 ∧ ∃ s2, f s1 = .ok (.val y) s2 ∧ unS vs s2 = s' := by
  unfold elemS at h
  cases e : t.bind d s with
  | none => rw [e] at h; cases h
  | some s1 =>
    rw [e] at h
    simp only at h
    cases e2 : f s1 with
    | ok r s2 =>
      rw [e2] at h
      cases r with
      | val z => cases h; exact ⟨s1, rfl, s2, e2, rfl⟩
      | own o => cases h
      | slot i => cases h
    | ex x s2 => rw [e2] at h; cases h
    | bad => rw [e2] at h; cases h
theorem comp_pure {α : Type} {vs : List Nat} {t : Tg} {f : Sem} {l : List α} {s : Sg} (h : α → D) (g : α → D) (st : ∀ d ∈ l, elemS vs t f (h d) (unS vs s) = .ok (g d) (unS vs s)) : compLoop vs t (fun s => .ok true s) f (l.map h) s = .ok (l.map g) (unS vs s) :=
  compLoop_mapOf h g (unS vs s) l s rfl fun d hd => by
    obtain ⟨s1, e1, s2, e2, e3⟩ := elemS_ok (st d hd)
    exact ⟨s1, e1, s1, rfl, s2, e2, e3⟩
def testS (t : Tg) (c : SemB) (d : D) (s : Sg) : Re Bool := match t.bind d s with
  | some s1 => c s1
  | none => .bad
theorem testS_eq (t : Tg) (c : SemB) (d : D) (s : Sg) : testS t c d s = match t.bind d s with
  | some s1 => c s1
  | none => .bad := rfl
theorem comp_filt {α : Type} {vs : List Nat} {t : Tg} {c : SemB} {f : Sem} {l : List α} {s : Sg} (h : α → D) (p : α → Bool) (g : α → D)
    (s0 : ∀ d ∈ l, ∃ s1, t.bind (h d) (unS vs s) = some s1 ∧ c s1 = .ok (p d) s1 ∧ unS vs s1 = unS vs s)
    (st : ∀ d ∈ l, p d = true → elemS vs t f (h d) (unS vs s) = .ok (g d) (unS vs s)) : compLoop vs t c f (l.map h) s = .ok ((l.filter p).map g) (unS vs s) := by
  suffices H : ∀ (l : List α) (s' : Sg), unS vs s' = unS vs s → (∀ d ∈ l, ∃ s1, t.bind (h d) (unS vs s) = some s1 ∧ c s1 = .ok (p d) s1 ∧ unS vs s1 = unS vs s) → (∀ d ∈ l, p d = true → elemS vs t f (h d) (unS vs s) = .ok (g d) (unS vs s)) → compLoop vs t c f (l.map h) s' = .ok ((l.filter p).map g) (unS vs s) from H l s rfl s0 st
  intro l
  induction l with
  | nil => intro s' e _ _; simp only [List.map_nil, compLoop, e, List.filter_nil]
  | cons d l ih =>
    intro s' e a b
    obtain ⟨s1, e1, e2, e3⟩ := a d (List.mem_cons_self ..)
    have a' := fun x hx => a x (List.mem_cons_of_mem _ hx)
    have b' := fun x hx => b x (List.mem_cons_of_mem _ hx)
    simp only [List.map_cons, compLoop, e, e1, e2, Re.bindN]
    cases hp : p d with
    | false =>
      simp only [Bool.false_eq_true, if_false]
      rw [ih s1 e3 a' b', List.filter_cons_of_neg (by simp [hp])]
    | true =>
      obtain ⟨s1', e1', s2, e4, e5⟩ := elemS_ok (b d (List.mem_cons_self ..) hp)
      rw [e1] at e1'; cases e1'
      simp only [if_true, e4, Re.bindN]
      rw [ih s2 e5 a' b', List.filter_cons_of_pos hp]
      rfl
/-- one that threads the thing of a slot -/
theorem comp_scan {α A : Type} {vs : List Nat} {t : Tg} {f : Sem} {l : List α} {s : Sg} (i : Nat) (h : α → D) (S : A → SV) (g : A → α → D) (nxt : A → α → A) (a0 : A) (hs : unS vs s = (unS vs s).set i (S a0))
    (st : ∀ a, ∀ d ∈ l, elemS vs t f (h d) ((unS vs s).set i (S a)) = .ok (g a d) ((unS vs s).set i (S (nxt a d)))) :
    ∃ ys, compLoop vs t (fun s => .ok true s) f (l.map h) s = .ok ys ((unS vs s).set i (S (l.foldl nxt a0))) ∧ ys.length = l.length ∧ ∀ y ∈ ys, ∃ a, ∃ d ∈ l, y = g a d := by
  suffices H : ∀ (l : List α) (a : A) (s' : Sg), unS vs s' = (unS vs s).set i (S a) → (∀ a, ∀ d ∈ l, elemS vs t f (h d) ((unS vs s).set i (S a)) = .ok (g a d) ((unS vs s).set i (S (nxt a d)))) → ∃ ys, compLoop vs t (fun s => .ok true s) f (l.map h) s' = .ok ys ((unS vs s).set i (S (l.foldl nxt a))) ∧ ys.length = l.length ∧ ∀ y ∈ ys, ∃ a, ∃ d ∈ l, y = g a d from H l a0 s hs st
  intro l
  induction l with
  | nil => intro a s' e _; exact ⟨[], by simp only [List.map_nil, compLoop, e, List.foldl_nil], rfl, fun y hy => by cases hy⟩
  | cons d l ih =>
    intro a s' e st
    obtain ⟨s1, e1, s2, e2, e3⟩ := elemS_ok (st a d (List.mem_cons_self ..))
    obtain ⟨ys, e4, e5, e6⟩ := ih (nxt a d) s2 e3 fun a x hx => st a x (List.mem_cons_of_mem _ hx)
    refine ⟨g a d :: ys, ?_, by simp [e5], fun y hy => ?_⟩
    · simp only [List.map_cons, compLoop, e, e1, Re.bindN, if_true, e2]
      rw [e4]; rfl
    · rcases List.mem_cons.mp hy with rfl | hy
      · exact ⟨a, d, List.mem_cons_self .., rfl⟩
      · obtain ⟨a', d', h1, h2⟩ := e6 y hy
        exact ⟨a', d', List.mem_cons_of_mem _ h1, h2⟩
theorem comp_nil {vs : List Nat} {t : Tg} {c : SemB} {f : Sem} {s : Sg} : compLoop vs t c f [] s = .ok [] (unS vs s) := by simp only [compLoop]
end EV
end
section
set_option Elab.async false
set_option linter.all false
set_option maxRecDepth 100000
set_option autoImplicit false
/-! EV42: d.update(e) where e may be empty -/
namespace EV
open PySem PySem.Spec PyProof.Rows L2
def mUpdate2 (o : O) (ds : List D) : Option (D × O) := match mUpdate o ds with
  | some r => some r
  | none => match o, ds with
    | .dic xs, [.dict []] => if szOk xs.length = true then some (.none, .dic xs) else none
    | _, _ => none
section
variable {T : Tx} {N : List Str} {sc : Scope} {cold top : Bool} {k : Nat} {X : Cx} {W : WX} {nr : List Nat}
theorem m_update2 : ∀ X W, Fx T N sc cold top k X W → MtR X "dict.update" (rMut T.K mUpdate2) := fun X W F pins s σ H x xs v us Q I rx rs ⟨Φ, a, o, ds, r, o', l, hx, n, w, hd, hp, q⟩ => by
  unfold mUpdate2 at hp
  cases em : mUpdate o ds with
  | some p =>
    rw [em] at hp; cases hp
    exact m_update X W F pins s σ H x xs v us Q I rx rs ⟨Φ, a, o, ds, r, o', l, hx, n, w, hd, em, q⟩
  | none =>
    rw [em] at hp
    simp only at hp
    subst hx
    split at hp
    · rename_i xs'
      split at hp
      · rename_i c1
        have c1 := of_decide_eq_true c1
        cases hp
        obtain ⟨y, rfl, ry⟩ := hd.one'
        obtain ⟨b, rfl, wb⟩ := (CR.fz ry : CR T.K Φ H y _).dictR l
        cases rx
        obtain ⟨u, rfl, ru⟩ := rs.one
        cases ru
        have hne : a ≠ b := by
          rintro rfl
          cases ry with
          | dK h => rw [n] at h; cases h
          | dT h => rw [n] at h; cases h
        have hu := F.rm.un
        have bk : ObjOk X.prog X.w H s.heap b (.dK []) ∧ ObjOk X.prog X.w H s.heap b (.dT []) := by
          rcases wb with ⟨ws2, e2, rk2⟩ | ⟨ws2, e2, rk2⟩
          · cases ws2 with
            | nil => exact ⟨rd_of I.hok e2, dt_empty (rd_of I.hok e2)⟩
            | cons z zs => cases rk2
          · cases ws2 with
            | nil => exact ⟨dk_empty (rd_of I.hok e2), rd_of I.hok e2⟩
            | cons z zs => cases rk2
        rcases w with ⟨ws, e, rk⟩ | ⟨ws, e, rk⟩
        · have l1 := rk.length
          rw [List.length_map] at l1
          obtain ⟨z, hd, vs, rel, dd⟩ := dk_of I.hok e
          obtain ⟨z2, hd2, vs2, rel2, dd2⟩ := (show ([] : List (Key × V)).length ≤ sizeLine ∧ (b == sysModules) = false ∧ ∃ vs, KV ([] : List (Key × V)) vs ∧ s.heap.DictOf (mixKind X.prog X.w) b vs from bk.1)
          cases rel2
          refine call_meetsIn PySem.F.slot_dict_update dd.typeIs PySem.F.entry_dict_update (PySem.F.args_dict_update_2 _ _) (meets_dict_update (mixKind X.prog X.w) a b hne hd2) ⟨vs, [], dd, dd2, by rw [← rel.length]; simpa using (by omega : ws.length ≤ sizeLine), fun h' d1 d2 sb => ?_⟩
          refine ⟨.non, _, d_write (ob := .dK ws) (t' := s.toks) I (by rw [e]; exact True.intro) sb (let ⟨q, _, _, hq, _⟩ := d1; ⟨q, hq⟩) (dk_new z hd rel d1), rfl, q _ _ upd_off (.inl ⟨_, upd_same, rk⟩) .non⟩
        · have l1 := rk.length
          rw [List.length_map] at l1
          obtain ⟨z, hd, vs, rel, dd⟩ := dt_of I.hok e
          obtain ⟨z2, hd2, vs2, rel2, o2, es2, ep2, p1, p2, p3, p4, p5⟩ := bk.2
          cases rel2
          have dd2 : s.heap.DictOfH (tupleKind (mixKind X.prog X.w)) b [] := ⟨o2, es2, ep2, p1, p2, p3, p4, fun x hx => (nomatch hx), p5⟩
          have k1 := Paired.length rel
          refine call_update_dictH (tupleKind_room_in1 (by omega)) hne hd2 dd dd2 (.inr ⟨fun x hx => (nomatch hx), List.nodup_nil⟩) (by simpa using (by omega : vs.length ≤ sizeLine)) fun h' d1 d2 sb => ?_
          obtain ⟨q1, es, ep, hq, g2, g3, g4, _, g5⟩ := d1
          refine ⟨.non, _, d_write (ob := .dT ws) (t' := s.toks) I (by rw [e]; exact True.intro) sb ⟨q1, hq⟩ ⟨z, hd, _, rel.keeps fun c ys ec => ?_, q1, es, ep, hq, g2, g3, g4, g5⟩, rfl, q _ _ upd_off (.inr ⟨_, upd_same, rk⟩) .non⟩
          rw [upd_ne (ne_of ec e (fun z => nomatch z))]
          exact ec
      · cases hp
    · cases hp
end
theorem mUpdate2_nil (xs : List (D × D)) (h : xs.length ≤ 1000000) : mUpdate2 (.dic xs) [.dict []] = some (.none, .dic xs) := by
  unfold mUpdate2
  cases em : mUpdate (.dic xs) [.dict []] with
  | none => simp only [szOk_of h, if_true]
  | some p =>
    simp only
    unfold mUpdate at em
    simp only at em
    split at em
    · cases em; rfl
    · cases em
theorem mUpdate2_of {o : O} {ds : List D} {r : D × O} (h : mUpdate o ds = some r) : mUpdate2 o ds = some r := by unfold mUpdate2; rw [h]
/-! operators, by what they work on -/
theorem pAdd_int (i j : Int) : pAdd (.int i) (.int j) = some (.val (.int (i + j))) := rfl
theorem pMul_int (i j : Int) : pMul (.int i) (.int j) = if (bit64 i || bit64 j) = true then some (.val (.int (i * j))) else none := rfl
theorem pAdd_lst {a b : List D} (h : a.length + b.length ≤ 1000000) : pAdd (.list a) (.list b) = some (.own (.lst (a ++ b))) := by
  unfold pAdd; simp only [szOk_of h, if_true]
theorem pAdd_tup {a b : List D} (h : a.length + b.length ≤ 1000000) : pAdd (.tuple a) (.tuple b) = some (.val (.tuple (a ++ b))) := by
  unfold pAdd; simp only [szOk_of h, if_true]
def valP (vs : List Nat) (x : D) (r : Re R) : Re (D × D) := match r with
  | .ok (.val y) s3 => .ok (x, y) (unS vs s3)
  | _ => .bad
def pairU (vs : List Nat) (fv : Sem) (r : Re R) : Re (D × D) := match r with
  | .ok (.val x) s2 => valP vs x (fv s2)
  | _ => .bad
def elemD (vs : List Nat) (t : Tg) (fk fv : Sem) (d : D) (s : Sg) : Re (D × D) := match t.bind d s with
  | some s1 => pairU vs fv (fk s1)
  | none => .bad
theorem elemD_eq (vs : List Nat) (t : Tg) (fk fv : Sem) (d : D) (s : Sg) : elemD vs t fk fv d s = match t.bind d s with
  | some s1 => pairU vs fv (fk s1)
  | none => .bad := rfl
theorem pairU_ok (vs : List Nat) (fv : Sem) (x : D) (s : Sg) : pairU vs fv (.ok (.val x) s) = valP vs x (fv s) := rfl
theorem valP_ok (vs : List Nat) (x y : D) (s : Sg) : valP vs x (.ok (.val y) s) = .ok (x, y) (unS vs s) := rfl
theorem elemD_ok {vs : List Nat} {t : Tg} {fk fv : Sem} {d x y : D} {s s' : Sg} (h : elemD vs t fk fv d s = .ok (x, y) s') : ∃ s1, t.bind d s = some s1 ∧ ∃ s2, fk s1 = .ok (.val x) s2 ∧ ∃ s3, fv s2 = .ok (.val y) s3 ∧ unS vs s3 = s' := by
  unfold elemD at h
  cases e : t.bind d s with
  | none => rw [e] at h; cases h
  | some s1 =>
    rw [e] at h
    simp only [pairU] at h
    cases e2 : fk s1 with
    | ok r s2 =>
      rw [e2] at h
      cases r with
      | val z =>
        simp only [valP] at h
        cases e3 : fv s2 with
        | ok r s3 =>
          rw [e3] at h
          cases r with
          | val z => cases h; exact ⟨s1, rfl, s2, e2, s3, e3, rfl⟩
          | own o => cases h
          | slot i => cases h
        | ex x s2 => rw [e3] at h; cases h
        | bad => rw [e3] at h; cases h
      | own o => cases h
      | slot i => cases h
    | ex x s2 => rw [e2] at h; cases h
    | bad => rw [e2] at h; cases h
/-- a dict comprehension whose keys are rows and whose values are all v -/
theorem dc_pure {α : Type} {vs : List Nat} {t : Tg} {fk fv : Sem} {l : List α} {s : Sg} (h : α → D) (key : α → List Int) (v : D) (hl : l.length ≤ 1000000)
    (st : ∀ d ∈ l, elemD vs t fk fv (h d) (unS vs s) = .ok (rwD (key d), v) (unS vs s)) : dcLoop vs t (fun s => .ok true s) fk fv (l.map h) [] s = .ok (dicR (addR v [] (l.map key))) (unS vs s) := by
  suffices H : ∀ (l : List α) (ws : List (List Int × D)) (s' : Sg), unS vs s' = unS vs s → ws.length + l.length ≤ 1000000 → (∀ d ∈ l, elemD vs t fk fv (h d) (unS vs s) = .ok (rwD (key d), v) (unS vs s)) → dcLoop vs t (fun s => .ok true s) fk fv (l.map h) (dicR ws) s' = .ok (dicR (addR v ws (l.map key))) (unS vs s) from H l [] s rfl (by simpa using hl) st
  intro l
  induction l with
  | nil => intro ws s' e _ _; simp only [List.map_nil, dcLoop, e, addR, List.foldl_nil]
  | cons d l ih =>
    intro ws s' e hl st
    obtain ⟨s1, e1, s2, e2, s3, e3, e4⟩ := elemD_ok (st d (List.mem_cons_self ..))
    simp only [List.length_cons] at hl
    have e5 := setO_rows (ws := ws) (key d) v (by omega)
    have ih' := ih (putR ws (key d) v) s3 e4 (by have := putR_len ws (key d) v; omega) fun q hq => st q (List.mem_cons_of_mem _ hq)
    rw [List.map_cons]
    simp only [dcLoop, e, e1, Re.bindN, e2, e3, e5, if_true]
    exact ih'
end EV
end
section
set_option Elab.async false
set_option linter.all false
set_option maxRecDepth 100000
set_option autoImplicit false
/-! EV43: sets of rows as dicts whose values are all True -/
namespace EV
open PySem PySem.Spec PyProof.Rows L2
theorem size16 : 16000000 < sizeLine := by rw [sizeLine_eq]; decide
theorem szOk16 {n : Nat} (h : n ≤ 16000000) : szOk n = true := decide_eq_true (by have := size16; omega)
theorem lt_size16 {n : Nat} (h : n ≤ 16000000) : n < sizeLine := by have := size16; omega
def add1 (W : List (List Int)) (r : List Int) : List (List Int) := if r ∈ W then W else W ++ [r]
def addS (W l : List (List Int)) : List (List Int) := l.foldl add1 W
def setW (W : List (List Int)) : List (List Int × D) := W.map fun r => (r, PyData.bool true)
theorem keysR_setW (W : List (List Int)) : keysR (setW W) = W := by unfold keysR setW; rw [List.map_map]; exact List.map_id' W
theorem getR_setW (W : List (List Int)) (r : List Int) : (getR (setW W) r).isSome = decide (r ∈ W) := by rw [getR_keys, keysR_setW]
theorem setW_len (W : List (List Int)) : (setW W).length = W.length := by simp [setW]
theorem putR_setW (W : List (List Int)) (r : List Int) : putR (setW W) r (.bool true) = setW (add1 W r) := by
  unfold putR add1
  have e : ((setW W).any fun w => decide (w.1 = r)) = decide (r ∈ W) := by
    unfold setW
    rw [List.any_map]
    induction W with
    | nil => rfl
    | cons w W ih =>
      rw [List.any_cons, ih]
      by_cases c : w = r
      · simp [c]
      · have c' : ¬ r = w := fun z => c z.symm
        simp [c, c']
  rw [e]
  by_cases c : r ∈ W
  · rw [if_pos (by simpa using c), if_pos c]
    unfold setW
    rw [List.map_map]
    refine List.map_congr_left fun w _ => ?_
    simp only [Function.comp]
    split <;> rfl
  · rw [if_neg (by simpa using c), if_neg c]
    unfold setW
    rw [List.map_append]; rfl
theorem addR_setW : ∀ (l W : List (List Int)), addR (.bool true) (setW W) l = setW (addS W l)
  | [], W => rfl
  | r :: l, W => by
    have ih := addR_setW l (add1 W r)
    unfold addR addS at *
    rw [List.foldl_cons, List.foldl_cons, putR_setW, ih]
theorem addR_nil (l : List (List Int)) : addR (.bool true) [] l = setW (addS [] l) := addR_setW l []
theorem mem_add1 {W : List (List Int)} {r q : List Int} : q ∈ add1 W r ↔ q ∈ W ∨ q = r := by
  unfold add1
  split
  · rename_i h
    exact ⟨.inl, fun e => e.elim id fun z => z ▸ h⟩
  · simp
theorem mem_addS {q : List Int} : ∀ {l W : List (List Int)}, q ∈ addS W l ↔ q ∈ W ∨ q ∈ l
  | [], W => by simp [addS]
  | r :: l, W => by
    have ih := mem_addS (q := q) (l := l) (W := add1 W r)
    unfold addS at *
    rw [List.foldl_cons, ih, mem_add1, List.mem_cons, or_assoc]
theorem nodup_add1 {W : List (List Int)} {r : List Int} (h : W.Nodup) : (add1 W r).Nodup := by
  unfold add1
  split
  · exact h
  · rename_i c
    refine List.nodup_append.mpr ⟨h, by simp, fun a ha b hb => ?_⟩
    rw [List.mem_singleton] at hb
    subst hb
    rintro rfl
    exact c ha
theorem nodup_addS : ∀ {l W : List (List Int)}, W.Nodup → (addS W l).Nodup
  | [], W, h => h
  | r :: l, W, h => nodup_addS (l := l) (nodup_add1 h)
theorem len_add1 (W : List (List Int)) (r : List Int) : (add1 W r).length ≤ W.length + 1 ∧ W.length ≤ (add1 W r).length := by
  unfold add1; split <;> simp
theorem len_addS : ∀ (l W : List (List Int)), (addS W l).length ≤ W.length + l.length ∧ W.length ≤ (addS W l).length
  | [], W => by simp [addS]
  | r :: l, W => by
    have h := len_addS l (add1 W r)
    have h1 := len_add1 W r
    unfold addS at *
    rw [List.foldl_cons, List.length_cons]; omega
theorem addS_new : ∀ {l W : List (List Int)}, l.Nodup → (∀ r ∈ l, r ∉ W) → addS W l = W ++ l
  | [], W, _, _ => by simp [addS]
  | r :: l, W, h, hn => by
    have h' := List.nodup_cons.mp h
    have e : add1 W r = W ++ [r] := by unfold add1; rw [if_neg (hn r (List.mem_cons_self ..))]
    have ih := addS_new (l := l) (W := W ++ [r]) h'.2 fun q hq hz => by
      rcases List.mem_append.mp hz with hz | hz
      · exact hn q (List.mem_cons_of_mem _ hq) hz
      · rw [List.mem_singleton] at hz; subst hz; exact h'.1 hq
    unfold addS at *
    rw [List.foldl_cons, e, ih, List.append_assoc]; rfl
theorem setO_setW {W : List (List Int)} (r : List Int) (h : W.length ≤ 16000000) : setO (.dic (dicR (setW W))) (rwD r) (.bool true) = some (.dic (dicR (setW (add1 W r)))) := by
  have e : decide ((dicR (setW W)).length < sizeLine) = true := decide_eq_true (lt_size16 (by simpa [dicR, setW] using h))
  unfold setO
  simp only [ks_row, Option.bind, ksOk_rows, e, Bool.and_self, if_true, dput_rows, putR_setW]
theorem in_setW (W : List (List Int)) (r : List Int) : pIn (rwD r) (.dict (dicR (setW W))) = some (.val (.bool (decide (r ∈ W)))) := by rw [in_rows, getR_setW]
theorem notIn_setW (W : List (List Int)) (r : List Int) : pNotIn (rwD r) (.dict (dicR (setW W))) = some (.val (.bool (!decide (r ∈ W)))) := by rw [notIn_rows, getR_setW]
theorem merge_setW (A B : List (List Int)) : dmerge (dicR (setW A)) (dicR (setW B)) = dicR (setW (addS A B)) := by
  have := merge_rows (.bool true) B (setW A)
  rw [addR_setW] at this
  rw [← this]
  have e : dicR (setW B) = B.map fun r => (rwD r, PyData.bool true) := by unfold dicR setW; rw [List.map_map]; rfl
  rw [e]
theorem update_setW {A B : List (List Int)} (h : A ≠ [] ∨ B = []) (hl : A.length + B.length ≤ 16000000) : mUpdate2 (.dic (dicR (setW A))) [.dict (dicR (setW B))] = some (.none, .dic (dicR (setW (addS A B)))) := by
  have lA : (dicR (setW A)).length = A.length := by simp [dicR, setW]
  have lB : (dicR (setW B)).length = B.length := by simp [dicR, setW]
  by_cases hB : B = []
  · subst hB
    have e : addS A [] = A := rfl
    rw [e, show dicR (setW []) = [] from rfl]
    unfold mUpdate2
    cases em : mUpdate (.dic (dicR (setW A))) [.dict []] with
    | none => simp only [szOk16 (show (dicR (setW A)).length ≤ 16000000 by omega), if_true]
    | some p =>
      simp only
      unfold mUpdate at em
      simp only at em
      split at em
      · cases em; rfl
      · cases em
  · have hA : A ≠ [] := h.resolve_right hB
    refine mUpdate2_of ?_
    unfold mUpdate
    have c : (szOk ((dicR (setW A)).length + (dicR (setW B)).length) && (headKS (dicR (setW A)) == headKS (dicR (setW B))) && !(dicR (setW A)).isEmpty) = true := by
      rw [szOk16 (by omega)]
      cases A with
      | nil => exact absurd rfl hA
      | cons a A =>
        cases B with
        | nil => exact absurd rfl hB
        | cons b B =>
          have e1 : ∀ (x : List Int) (X : List (List Int)), headKS (dicR (setW (x :: X))) = some false ∨ headKS (dicR (setW (x :: X))) = some true := fun x X => by
            unfold headKS dicR setW
            simp only [List.map_cons]
            split <;> simp_all
          have e2 : ∀ (x : List Int) (X : List (List Int)), headKS (dicR (setW (x :: X))) = headKS [(rwD [], PyData.none)] := fun x X => by
            simp only [dicR, setW, List.map_cons, headKS, rwD]
          rw [e2, e2]
          rfl
    simp only [c, if_true, merge_setW]
theorem sortOk16 {l : List (List Int)} (h : ∀ r ∈ l, r ≠ []) (hl : l.length ≤ 16000000) : sortOk (l.map rwD) = true := by
  unfold sortOk
  simp only [Bool.and_eq_true, Bool.or_eq_true, List.all_eq_true]
  refine ⟨⟨⟨fun d hd e he => ?_, .inl fun d hd => ?_⟩, fun d hd => ?_⟩, szOk16 (by simpa using hl)⟩
  · obtain ⟨i, -, rfl⟩ := List.mem_map.mp hd
    obtain ⟨j, -, rfl⟩ := List.mem_map.mp he
    exact alike_ints i j
  · obtain ⟨i, hi, rfl⟩ := List.mem_map.mp hd
    cases i with
    | nil => exact (h _ hi rfl).elim
    | cons x i => rfl
  · obtain ⟨i, hi, rfl⟩ := List.mem_map.mp hd
    exact shp_tints i
theorem sorted_setW {W : List (List Int)} (h : ∀ r ∈ W, r ≠ []) (hl : W.length ≤ 16000000) : pSorted [.dict (dicR (setW W))] = some (.own (.lst ((sortR W).map rwD))) := by
  have e : (dicR (setW W)).map (·.1) = W.map rwD := by unfold dicR setW; rw [List.map_map, List.map_map]; rfl
  have s := sortOk16 h hl
  unfold pSorted iterD
  simp only [Option.bind, e, s, if_true, sortD_rows]
theorem sorted_rows16 {l : List (List Int)} (h : ∀ r ∈ l, r ≠ []) (hl : l.length ≤ 16000000) : pSorted [.list (l.map rwD)] = some (.own (.lst ((sortR l).map rwD))) := by
  unfold pSorted iterD
  simp only [Option.bind, sortOk16 h hl, if_true, sortD_rows]
theorem truth_setW (W : List (List Int)) : truth (.dict (dicR (setW W))) = some (!W.isEmpty) := by
  cases W <;> rfl
theorem len_setW {W : List (List Int)} : pLen [.dict (dicR (setW W))] = some (.val (.int W.length)) := by
  unfold pLen
  simp [dicR, setW]
theorem ltR_asym : ∀ {p q : List Int}, ltR p q = true → ltR q p = false
  | [], [], h => by simp [ltR, HT.lexLt] at h
  | [], y :: q, h => by simp [ltR, HT.lexLt]
  | x :: p, [], h => by simp [ltR, HT.lexLt] at h
  | x :: p, y :: q, h => by
    unfold ltR at *
    rw [HT.lexLt_cons] at h ⊢
    by_cases c : x = y
    · subst c
      rw [if_pos rfl] at h ⊢
      exact ltR_asym h
    · rw [if_neg c] at h
      rw [if_neg (fun z => c z.symm)]
      have := of_decide_eq_true h
      exact decide_eq_false (by omega)
/-- two lists, strictly upwards, with the same rows -/
theorem UpR.ext : ∀ {a b : List (List Int)}, UpR a → UpR b → (∀ r, r ∈ a ↔ r ∈ b) → a = b
  | [], [], _, _, _ => rfl
  | [], y :: b, _, _, h => by have := (h y).mpr (List.mem_cons_self ..); cases this
  | x :: a, [], _, _, h => by have := (h x).mp (List.mem_cons_self ..); cases this
  | x :: a, y :: b, ha, hb, h => by
    have ha' := List.pairwise_cons.mp ha
    have hb' := List.pairwise_cons.mp hb
    have asym : ∀ p q : List Int, ltR p q = true → ltR q p = true → False := fun p q h1 h2 => by rw [ltR_asym h1] at h2; cases h2
    have e : x = y := by
      rcases List.mem_cons.mp ((h x).mp (List.mem_cons_self ..)) with e | e
      · exact e
      · rcases List.mem_cons.mp ((h y).mpr (List.mem_cons_self ..)) with e' | e'
        · exact e'.symm
        · exact (asym x y (ha'.1 y e') (hb'.1 x e)).elim
    subst e
    have na : x ∉ a := fun hx => by have := ha'.1 x hx; rw [ltR_irr] at this; cases this
    have nb : x ∉ b := fun hx => by have := hb'.1 x hx; rw [ltR_irr] at this; cases this
    rw [UpR.ext (a := a) (b := b) ha'.2 hb'.2 fun r => ⟨fun hr => ((List.mem_cons.mp ((h r).mp (List.mem_cons_of_mem _ hr))).resolve_left (fun z => na (z ▸ hr))), fun hr => ((List.mem_cons.mp ((h r).mpr (List.mem_cons_of_mem _ hr))).resolve_left (fun z => nb (z ▸ hr)))⟩]
theorem pSub1_lst (ds : List D) (i : Int) : pSub1 (.list ds) (.int i) = (atI ds i).map R.val := rfl
theorem pSub1_tup (ds : List D) (i : Int) : pSub1 (.tuple ds) (.int i) = (atI ds i).map R.val := rfl
theorem maxI_of {ns : List Int} (h : ns ≠ []) : maxI ns ∈ ns ∧ ∀ x ∈ ns, x ≤ maxI ns := by
  have key : ∀ (l : List Int) (a : Int), (l.foldl (fun a b => if b > a then b else a) a = a ∨ l.foldl (fun a b => if b > a then b else a) a ∈ l) ∧ a ≤ l.foldl (fun a b => if b > a then b else a) a ∧ ∀ x ∈ l, x ≤ l.foldl (fun a b => if b > a then b else a) a := by
    intro l
    induction l with
    | nil => intro a; exact ⟨.inl rfl, Int.le_refl _, fun x hx => by cases hx⟩
    | cons b l ih =>
      intro a
      obtain ⟨h1, h2, h3⟩ := ih (if b > a then b else a)
      rw [List.foldl_cons]
      generalize l.foldl (fun a b => if b > a then b else a) (if b > a then b else a) = z at *
      by_cases c : b > a
      · rw [if_pos c] at *
        refine ⟨.inr ?_, by omega, fun x hx => ?_⟩
        · rcases h1 with h1 | h1
          · rw [h1]; exact List.mem_cons_self ..
          · exact List.mem_cons_of_mem _ h1
        · rcases List.mem_cons.mp hx with rfl | hx
          · exact h2
          · exact h3 x hx
      · rw [if_neg c] at *
        refine ⟨h1.imp id (List.mem_cons_of_mem _), h2, fun x hx => ?_⟩
        rcases List.mem_cons.mp hx with rfl | hx
        · omega
        · exact h3 x hx
  cases ns with
  | nil => exact absurd rfl h
  | cons a l =>
    obtain ⟨h1, h2, h3⟩ := key l a
    have e : maxI (a :: l) = (a :: l).foldl (fun a b => if b > a then b else a) a := rfl
    rw [e, List.foldl_cons, show (if a > a then a else a) = a from by simp]
    refine ⟨?_, fun x hx => ?_⟩
    · rcases h1 with h1 | h1
      · rw [h1]; exact List.mem_cons_self ..
      · exact List.mem_cons_of_mem _ h1
    · rcases List.mem_cons.mp hx with rfl | hx
      · exact h2
      · exact h3 x hx
theorem pMax_ints {ns : List Int} (h : ns ≠ []) : pMax [.list (ns.map .int)] = some (.val (.int (maxI ns))) := by
  have := pMax_map (fun x : Int => x) ns h
  rwa [List.map_id'] at this
end EV
end
section
set_option Elab.async false
set_option linter.all false
set_option maxRecDepth 100000
set_option autoImplicit false
/-! EV44: loops over data as they stand -/
namespace EV
open PySem PySem.Spec PyProof.Rows L2
theorem wp_foldD {A B : Type} {t : Tg} {b : SemS} {l : List D} {s : Sg} {rest : SemS} {Q : SRe → Prop} (S : Sg → A → B → Sg) (step : A → D → A) (I : List D → A → Prop) (a0 : A) (x0 : B) (hs : s = S s a0 x0) (i0 : I [] a0)
    (st : ∀ done d todo a x, l = done ++ d :: todo → I done a → ∃ x', bodyS t b d (S s a x) = .nx (S s (step a d) x') ∧ I (done ++ [d]) (step a d))
    (k : ∀ x', I l (l.foldl step a0) → Wp (rest (S s (l.foldl step a0) x')) Q) : Wp (thenS (forLoop t b l s) rest) Q := by
  have := wp_fold (t := t) (b := b) (l := l) (h := fun d => d) (rest := rest) (Q := Q) S step I a0 x0 hs i0 st k
  rwa [List.map_id'] at this
theorem wp_forD {t : Tg} {b : SemS} {l : List D} {s : Sg} {rest : SemS} {Q : SRe → Prop} (P : List D → Sg → Prop) (h0 : P [] s)
    (st : ∀ done d todo s', l = done ++ d :: todo → P done s' → (∃ s2, bodyS t b d s' = .nx s2 ∧ P (done ++ [d]) s2) ∨ (∃ s2, bodyS t b d s' = .bk s2 ∧ Wp (rest s2) Q) ∨ (∃ r s2, bodyS t b d s' = .rt r s2 ∧ Q (.rt r s2)) ∨ (∃ x s2, bodyS t b d s' = .ex x s2 ∧ Q (.ex x s2)))
    (k : ∀ s', P l s' → Wp (rest s') Q) : Wp (thenS (forLoop t b l s) rest) Q := by
  have := wp_for (t := t) (b := b) (l := l) (h := fun d => d) (rest := rest) (Q := Q) P h0 st k
  rwa [List.map_id'] at this
theorem comp_pureD {vs : List Nat} {t : Tg} {f : Sem} {l : List D} {s : Sg} (g : D → D) (st : ∀ d ∈ l, elemS vs t f d (unS vs s) = .ok (g d) (unS vs s)) : compLoop vs t (fun s => .ok true s) f l s = .ok (l.map g) (unS vs s) := by
  have := comp_pure (vs := vs) (t := t) (f := f) (l := l) (s := s) (fun d => d) g st
  rwa [List.map_id'] at this
theorem getAll_val (s : Sg) (ds : List D) : getAll s (ds.map R.val) = some ds := by
  induction ds with
  | nil => rfl
  | cons d ds ih => simp [getAll, ih, R.get]
theorem valsOf_map : ∀ ds : List D, valsOf (ds.map R.val) = some ds
  | [] => rfl
  | d :: ds => by simp [valsOf, valsOf_map ds]
theorem valsOf_app : ∀ (as bs : List D), valsOf (as.map R.val ++ bs.map R.val) = some (as ++ bs) := fun as bs => by rw [← List.map_append]; exact valsOf_map _
end EV
end
section
set_option Elab.async false
set_option linter.all false
set_option maxRecDepth 100000
set_option autoImplicit false
set_option maxHeartbeats 4000000
namespace LW
open PySem PySem.Spec PyProof.Rows L2 EV

def kindCls : List Str := ["NotOperation", "NotTerm", "NotRelation", "NotDemand", "NotPaper", "BadNumber", "NoAnswer", "TooLarge"]
def kindNames : List Str := ["operation", "term", "relation", "demand", "paper", "number", "none", "large"]
def kindOf : Str → Option Str := kindFn kindCls kindNames
/-! _law_number -/
def b__law_number : SemS :=
  (semSeqS (semIfS (semCmpB pLt (semNh 0) (semC (.int 0))) (semSeqS (semRet (semBin pSub (semC (.int 0)) (semNh 0))) semNx) semNx) (semSeqS (semRet (semNm 0)) semNx))
def cs__law_number : Cs := mkCs 1 [0] b__law_number
/-! _law_draws -/
def b__law_draws : SemS :=
  (semSeqS (semSet 1 (semLst [])) (semSeqS (semFor (.one 2) (semSeq (semNv 0)) (semSeqS (semSet 3 (semCall cs__law_number [.one (semNv 2)])) (semSeqS (semIfS (semCmpB pGe (semNh 3) (semC (.int 1000000000000000000))) (semSeqS (semFor (.one 4) (semRange1 [.one (semC (.int 60))]) (semSeqS (semIfS (semCmpB pEq (semNh 3) (semC (.int 0))) (semSeqS (fun s => .bk s) semNx) semNx) (semSeqS (semExpr (semMut "list" mAppend 1 [.one (fz (semBin pMod (fz (semCallB pInt [.one (semNh 3)])) (semC (.int 1000))))])) (semSeqS (semSet 3 (semBin pDiv (semNh 3) (semC (.int 1000)))) semNx)))) semNx) (semSeqS (semSet 5 (semBin pMod (fz (semCallB pInt [.one (fz (semBin pAdd (fz (semBin pMul (semNh 3) (semC (.int 48271)))) (semC (.int 11))))])) (semC (.int 2147483647)))) (semSeqS (semSet 6 (semBin pMod (fz (semCallB pInt [.one (fz (semBin pAdd (fz (semBin pMul (semNh 5) (semC (.int 69621)))) (semNh 3)))])) (semC (.int 2147483629)))) (semSeqS (semExpr (semMut "list" mExtend 1 [.one (fz (semLst [.one (fz (semBin pMod (fz (semCallB pInt [.one (semNh 3)])) (semC (.int 1000)))), .one (fz (semBin pMod (fz (semCallB pInt [.one (semNh 5)])) (semC (.int 1000)))), .one (fz (semBin pMod (fz (semCallB pInt [.one (semNh 6)])) (semC (.int 1000))))]))])) semNx)))) semNx))) (semSeqS (semExpr (semMut "list" mReverse 1 [])) (semSeqS (semRet (semNm 1)) semNx))))
def cs__law_draws : Cs := mkCs 7 [0] b__law_draws
/-! _law_next -/
def b__law_next : SemS :=
  (semSeqS (semIfS (semTru (semNh 0)) (semSeqS (semRet (semMut "list" mPop 0 [])) semNx) semNx) (semSeqS (semRet (semC (.int 0))) semNx))
def cs__law_next : Cs := mkCs 1 [0] b__law_next
/-! _law_more -/
def b__law_more : SemS :=
  (semSeqS (semSet 2 (semBin pAdd (fz (semBin pAdd (fz (semBin pMul (semC (.int 1000)) (fz (semCall cs__law_next [.one (semNh 0)])))) (fz (semCall cs__law_next [.one (semNh 0)])))) (semC (.int 1)))) (semSeqS (semSet 3 (semLst [])) (semSeqS (semFor (.one 4) (semRange1 [.one (semNh 1)]) (semSeqS (semSet 2 (semBin pMod (fz (semCallB pInt [.one (fz (semBin pAdd (fz (semBin pMul (semNh 2) (semC (.int 48271)))) (semC (.int 12345))))])) (semC (.int 2147483647)))) (semSeqS (semExpr (semMut "list" mAppend 3 [.one (fz (semBin pMod (fz (semCallB pInt [.one (fz (semBin pDiv (semNh 2) (semC (.int 7))))])) (semC (.int 1000))))])) semNx))) (semSeqS (semRet (semBin pAdd (semNh 3) (semNh 0))) semNx))))
def cs__law_more : Cs := mkCs 5 [0, 1] b__law_more
/-! tuples_for -/
def b_tuples_for : SemS :=
  (semSeqS (semSet 2 (semC (.int 1))) (semSeqS (semFor (.one 3) (semRange1 [.one (semNh 1)]) (semSeqS (semSet 2 (semCallB pMin [.one (fz (semBin pMul (semNh 2) (semNh 0))), .one (fz (semBin pAdd (semC (.int 81)) (semC (.int 1))))])) semNx)) (semSeqS (semRet (semNm 2)) semNx)))
def cs_tuples_for : Cs := mkCs 4 [0, 1] b_tuples_for
/-! is_size -/
def b_is_size : SemS :=
  (semSeqS (semRet (semAndV (fz (semBV (semChain pLe pLe (semC (.int 1)) (semNh 1) (semC (.int 81))))) (semBin pLe (fz (semCall cs_tuples_for [.one (semNv 0), .one (semNv 1)])) (semC (.int 81))))) semNx)
def cs_is_size : Cs := mkCs 2 [0, 1] b_is_size
/-! is_operation -/
def b_is_operation : SemS :=
  (semSeqS (semAsg (.tup (.cons (.one 1) (.cons (.one 2) (.cons (.one 3) .nil)))) (semNv 0)) (semSeqS (semIfS (semOr (semNot (semChain pLe pLe (semC (.int 2)) (semNh 1) (semC (.int 3)))) (semNot (semTru (fz (semCall cs_is_size [.one (semNv 1), .one (semNv 2)]))))) (semSeqS (semRet (semC (.bool false))) semNx) semNx) (semSeqS (semRet (semAndV (fz (semBin pEq (fz (semCallB pLen [.one (semNh 3)])) (fz (semCall cs_tuples_for [.one (semNv 1), .one (semNv 2)])))) (semCallB pAll [.one (fz (semComp [4] (.one 4) (semSeq (semNv 3)) (fun s => .ok true s) (fz (semBV (semChain pLe pLt (semC (.int 0)) (semNh 4) (semNh 1))))))]))) semNx)))
def cs_is_operation : Cs := mkCs 5 [0] b_is_operation
/-! check_operation -/
def b_check_operation : SemS :=
  (semSeqS (semIfS (semNot (semTru (fz (semCall cs_is_operation [.one (semNv 0)])))) (semSeqS (semRaise "NotOperation") semNx) semNx) semNx)
def cs_check_operation : Cs := mkCs 1 [0] b_check_operation
/-! is_row_of -/
def b_is_row_of : SemS :=
  (semSeqS (semRet (semAndV (fz (semBin pEq (fz (semCallB pLen [.one (semNh 2)])) (semNh 1))) (semCallB pAll [.one (fz (semComp [3] (.one 3) (semSeq (semNv 2)) (fun s => .ok true s) (fz (semBV (semChain pLe pLt (semC (.int 0)) (semNh 3) (semNh 0))))))]))) semNx)
def cs_is_row_of : Cs := mkCs 4 [0, 1, 2] b_is_row_of
/-! is_relation -/
def b_is_relation : SemS :=
  (semSeqS (semAsg (.tup (.cons (.one 1) (.cons (.one 2) (.cons (.one 3) .nil)))) (semNv 0)) (semSeqS (semIfS (semOr (semNot (semChain pLe pLe (semC (.int 2)) (semNh 1) (semC (.int 3)))) (semOr (semNot (semChain pLe pLe (semC (.int 1)) (semNh 2) (semC (.int 27)))) (semCmpB pGt (fz (semCallB pLen [.one (semNh 3)])) (semC (.int 4096))))) (semSeqS (semRet (semC (.bool false))) semNx) semNx) (semSeqS (semRet (semAndV (fz (semCallB pAll [.one (fz (semComp [4] (.one 4) (semSeq (semNv 3)) (fun s => .ok true s) (fz (semCall cs_is_row_of [.one (semNv 1), .one (semNv 2), .one (semNv 4)]))))])) (semCallB pAll [.one (fz (semComp [5, 6] (.tup (.cons (.one 5) (.cons (.one 6) .nil))) (semZipM [.one (semNv 3), .one (fz (semSlice (semNh 3) (some (semC (.int 1))) none))]) (fun s => .ok true s) (fz (semBin pLt (semNh 5) (semNh 6)))))]))) semNx)))
def cs_is_relation : Cs := mkCs 7 [0] b_is_relation
/-! check_relation -/
def b_check_relation : SemS :=
  (semSeqS (semIfS (semNot (semTru (fz (semCall cs_is_relation [.one (semNv 0)])))) (semSeqS (semRaise "NotRelation") semNx) semNx) semNx)
def cs_check_relation : Cs := mkCs 1 [0] b_check_relation
/-! check_one_k -/
def b_check_one_k : SemS :=
  (semSeqS (semIfS (semCmpB pNe (fz (semBin pSub1 (semNh 0) (semC (.int 0)))) (fz (semBin pSub1 (semNh 1) (semC (.int 0))))) (semSeqS (semRaise "BadNumber") semNx) semNx) semNx)
def cs_check_one_k : Cs := mkCs 2 [0, 1] b_check_one_k
/-! check_asked -/
def b_check_asked : SemS :=
  (semSeqS (semExpr (semCall cs_check_operation [.one (semNv 0)])) (semSeqS (semExpr (semCall cs_check_relation [.one (semNv 1)])) (semSeqS (semExpr (semCall cs_check_one_k [.one (semNv 0), .one (semNv 1)])) semNx)))
def cs_check_asked : Cs := mkCs 2 [0, 1] b_check_asked
/-! power_of -/
def b_power_of : SemS :=
  (semSeqS (semSet 2 (semC (.int 1))) (semSeqS (semFor (.one 3) (semRange1 [.one (semNh 1)]) (semSeqS (semSet 2 (semCallB pMin [.one (fz (semBin pMul (semNh 2) (semNh 0))), .one (fz (semBin pAdd (semC (.int 300000)) (semC (.int 1))))])) semNx)) (semSeqS (semRet (semNm 2)) semNx)))
def cs_power_of : Cs := mkCs 4 [0, 1] b_power_of
/-! choices -/
def b_choices : SemS :=
  (semSeqS (semSet 2 (semLst [.one (fz (semTup []))])) (semSeqS (semFor (.one 3) (semRange1 [.one (semNh 1)]) (semSeqS (semSet 4 (semLst [])) (semSeqS (semFor (.one 5) (semSeq (semNv 2)) (semSeqS (semExpr (semMut "list" mExtend 4 [.one (fz (semComp [6] (.one 6) (semSeq (semNv 0)) (fun s => .ok true s) (fz (semTup [.star (semNv 5), .one (semNv 6)]))))])) semNx)) (semSeqS (semSet 2 (semNv 4)) semNx)))) (semSeqS (semRet (semNm 2)) semNx)))
def cs_choices : Cs := mkCs 7 [0, 1] b_choices
/-! index_of -/
def b_index_of : SemS :=
  (semSeqS (semSet 2 (semC (.int 0))) (semSeqS (semFor (.one 3) (semSeq (semNv 1)) (semSeqS (semSet 2 (semBin pAdd (fz (semBin pMul (semNh 2) (semNh 0))) (semNh 3))) semNx)) (semSeqS (semRet (semNm 2)) semNx)))
def cs_index_of : Cs := mkCs 4 [0, 1] b_index_of
/-! made_of -/
def b_made_of : SemS :=
  (semSeqS (semAsg (.tup (.cons (.one 2) (.cons (.one 3) (.cons (.one 4) .nil)))) (semNv 0)) (semSeqS (semRet (semCallB pTuple [.one (fz (semComp [5] (.one 5) (semZipS (semNh 1)) (fun s => .ok true s) (fz (semBin pSub1 (semNh 4) (fz (semCall cs_index_of [.one (semNv 2), .one (semNv 5)]))))))])) semNx))
def cs_made_of : Cs := mkCs 6 [0, 1] b_made_of
/-! first_broken -/
def b_first_broken : SemS :=
  (semSeqS (semSet 2 (semBin pSub1 (semNh 1) (semC (.int 2)))) (semSeqS (semIfS (semCmpB pGt (fz (semCall cs_power_of [.one (fz (semCallB pLen [.one (semNh 2)])), .one (fz (semBin pSub1 (semNh 0) (semC (.int 1))))])) (semC (.int 300000))) (semSeqS (semRaise "TooLarge") semNx) semNx) (semSeqS (semSet 3 (semDComp [5] (.one 5) (semSeq (semNv 2)) (fun s => .ok true s) (semNv 5) (semC (.bool true)))) (semSeqS (semFor (.one 4) (semSeq (fz (semCall cs_choices [.one (semNv 2), .one (fz (semBin pSub1 (semNh 0) (semC (.int 1))))]))) (semSeqS (semIfS (semCmpB pNotIn (fz (semCall cs_made_of [.one (semNv 0), .one (semNv 4)])) (semNh 3)) (semSeqS (semRet (semNm 4)) semNx) semNx) semNx)) (semSeqS (semRet (semC .none)) semNx)))))
def cs_first_broken : Cs := mkCs 6 [0, 1] b_first_broken
/-! broken_rows -/
def b_broken_rows : SemS :=
  (semSeqS (semExpr (semCall cs_check_asked [.one (semNv 0), .one (semNv 1)])) (semSeqS (semRet (semCall cs_first_broken [.one (semNv 0), .one (semNv 1)])) semNx))
def cs_broken_rows : Cs := mkCs 2 [0, 1] b_broken_rows
/-! keeps -/
def b_keeps : SemS :=
  (semSeqS (semRet (semBin pIs (fz (semCall cs_broken_rows [.one (semNv 0), .one (semNv 1)])) (semC .none))) semNx)
def cs_keeps : Cs := mkCs 2 [0, 1] b_keeps
/-! _law_pick -/
def b__law_pick : SemS :=
  (semSeqS (semRet (semBin pSub1 (semNh 1) (fz (semBin pMod (fz (semCallB pInt [.one (fz (semCall cs__law_next [.one (semNh 0)]))])) (fz (semCallB pLen [.one (semNh 1)])))))) semNx)
def cs__law_pick : Cs := mkCs 2 [0, 1] b__law_pick
/-! _law_tuples -/
def b__law_tuples : SemS :=
  (semSeqS (semSet 2 (semLst [.one (fz (semTup []))])) (semSeqS (semFor (.one 3) (semRange1 [.one (semNh 1)]) (semSeqS (semSet 4 (semLst [])) (semSeqS (semFor (.one 5) (semSeq (semNv 2)) (semSeqS (semExpr (semMut "list" mExtend 4 [.one (fz (semComp [6] (.one 6) (semRange1 [.one (semNh 0)]) (fun s => .ok true s) (fz (semBin pAdd (semNh 5) (fz (semTup [.one (semNv 6)]))))))])) semNx)) (semSeqS (semSet 2 (semNv 4)) semNx)))) (semSeqS (semRet (semNm 2)) semNx)))
def cs__law_tuples : Cs := mkCs 7 [0, 1] b__law_tuples
/-! _law_known -/
def b__law_known : SemS :=
  (semSeqS (semIfS (semCmpB pEq (semNh 1) (semC (.int 2))) (semSeqS (semSet 2 (semLst [.one (fz (semTup [.one (semC (.int 1)), .one (semC (.int 1)), .one (semC (.int 1)), .one (semC (.int 0))])), .one (fz (semTup [.one (semC (.int 0)), .one (semC (.int 0)), .one (semC (.int 0)), .one (semC (.int 1))])), .one (fz (semTup [.one (semC (.int 0)), .one (semC (.int 1)), .one (semC (.int 1)), .one (semC (.int 1))])), .one (fz (semTup [.one (semC (.int 0)), .one (semC (.int 1)), .one (semC (.int 1)), .one (semC (.int 0))])), .one (fz (semTup [.one (semC (.int 1)), .one (semC (.int 0))])), .one (fz (semTup [.one (semC (.int 0)), .one (semC (.int 0)), .one (semC (.int 0)), .one (semC (.int 1)), .one (semC (.int 0)), .one (semC (.int 1)), .one (semC (.int 1)), .one (semC (.int 1))])), .one (fz (semTup [.one (semC (.int 0)), .one (semC (.int 1)), .one (semC (.int 1)), .one (semC (.int 0)), .one (semC (.int 1)), .one (semC (.int 0)), .one (semC (.int 0)), .one (semC (.int 1))])), .one (fz (semTup [.one (semC (.int 1)), .one (semC (.int 1)), .one (semC (.int 0)), .one (semC (.int 1))])), .one (fz (semTup [.one (semC (.int 0)), .one (semC (.int 0))])), .one (fz (semTup [.one (semC (.int 1)), .one (semC (.int 1))])), .one (fz (semTup [.one (semC (.int 0)), .one (semC (.int 0)), .one (semC (.int 1)), .one (semC (.int 0))]))])) (semSeqS (semSet 3 (semCall cs__law_pick [.one (semNh 0), .one (semNv 2)])) (semSeqS (semRet (semTup [.one (semC (.int 2)), .one (fz (semBin pAdd (fz (semBin pAdd (semC (.int 1)) (fz (semCallB pInt [.one (fz (semBin pGt (fz (semCallB pLen [.one (semNh 3)])) (semC (.int 2))))])))) (fz (semCallB pInt [.one (fz (semBin pGt (fz (semCallB pLen [.one (semNh 3)])) (semC (.int 4))))])))), .one (semNv 3)])) semNx))) semNx) (semSeqS (semSet 4 (semBin pMod (fz (semCallB pInt [.one (fz (semCall cs__law_next [.one (semNh 0)]))])) (semC (.int 6)))) (semSeqS (semIfS (semCmpB pLt (semNh 4) (semC (.int 4))) (semSeqS (semRet (semTup [.one (semC (.int 3)), .one (semC (.int 2)), .one (fz (semCallB pTuple [.one (fz (semComp [5] (.one 5) (semSeq (fz (semCall cs__law_tuples [.one (semC (.int 3)), .one (semC (.int 2))]))) (fun s => .ok true s) (fz (semBin pSub1 (fz (semLst [.one (fz (semCallB pMax [.one (semNh 5)])), .one (fz (semCallB pMin [.one (semNh 5)])), .one (fz (semBin pMod (fz (semCallB pInt [.one (fz (semCallB pSum [.one (semNh 5)]))])) (semC (.int 3)))), .one (fz (semBin pMod (fz (semCallB pInt [.one (fz (semBin pMul (semC (.int 2)) (fz (semCallB pSum [.one (semNh 5)]))))])) (semC (.int 3))))])) (semNh 4)))))]))])) semNx) semNx) (semSeqS (semRet (semTup [.one (semC (.int 3)), .one (semC (.int 1)), .one (fz (semBin pSub1 (fz (semLst [.one (fz (semTup [.one (semC (.int 1)), .one (semC (.int 2)), .one (semC (.int 0))])), .one (fz (semTup [.one (semC (.int 2)), .one (semC (.int 1)), .one (semC (.int 0))]))])) (fz (semBin pSub (semNh 4) (semC (.int 4))))))])) semNx))))
def cs__law_known : Cs := mkCs 6 [0, 1] b__law_known
/-! _law_any -/
def b__law_any : SemS :=
  (semSeqS (semRet (semTup [.one (semNv 1), .one (semNv 2), .one (fz (semCallB pTuple [.one (fz (semComp [3] (.one 3) (semSeq (fz (semCall cs__law_tuples [.one (semNv 1), .one (semNv 2)]))) (fun s => .ok true s) (fz (semBin pMod (fz (semCallB pInt [.one (fz (semCall cs__law_next [.one (semNh 0)]))])) (semNh 1)))))]))])) semNx)
def cs__law_any : Cs := mkCs 4 [0, 1, 2] b__law_any
/-! _law_operation -/
def b__law_operation : SemS :=
  (semSeqS (semIfS (semCmpB pGt (fz (semBin pMod (fz (semCallB pInt [.one (fz (semCall cs__law_next [.one (semNh 0)]))])) (semC (.int 3)))) (semC (.int 0))) (semSeqS (semRet (semCall cs__law_known [.one (semNh 0), .one (semNv 1)])) semNx) semNx) (semSeqS (semRet (semCall cs__law_any [.one (semNh 0), .one (semNv 1), .one (fz (semCall cs__law_pick [.one (semNh 0), .one (fz (semBin pSub1 (fz (semLst [.one (fz (semLst [.one (semC (.int 1)), .one (semC (.int 2)), .one (semC (.int 2)), .one (semC (.int 3))])), .one (fz (semLst [.one (semC (.int 1)), .one (semC (.int 1)), .one (semC (.int 2))]))])) (fz (semBin pSub (semNh 1) (semC (.int 2))))))]))])) semNx))
def cs__law_operation : Cs := mkCs 2 [0, 1] b__law_operation
/-! _law_choices -/
def b__law_choices : SemS :=
  (semSeqS (semSet 2 (semLst [.one (fz (semTup []))])) (semSeqS (semFor (.one 3) (semRange1 [.one (semNh 1)]) (semSeqS (semSet 4 (semLst [])) (semSeqS (semFor (.one 5) (semSeq (semNv 2)) (semSeqS (semExpr (semMut "list" mExtend 4 [.one (fz (semComp [6] (.one 6) (semSeq (semNv 0)) (fun s => .ok true s) (fz (semBin pAdd (semNh 5) (fz (semTup [.one (semNv 6)]))))))])) semNx)) (semSeqS (semSet 2 (semNv 4)) semNx)))) (semSeqS (semRet (semNm 2)) semNx)))
def cs__law_choices : Cs := mkCs 7 [0, 1] b__law_choices
/-! _law_index -/
def b__law_index : SemS :=
  (semSeqS (semSet 2 (semC (.int 0))) (semSeqS (semFor (.one 3) (semSeq (semNv 1)) (semSeqS (semSet 2 (semBin pAdd (fz (semBin pMul (semNh 2) (semNh 0))) (semNh 3))) semNx)) (semSeqS (semRet (semNm 2)) semNx)))
def cs__law_index : Cs := mkCs 4 [0, 1] b__law_index
/-! _law_value -/
def b__law_value : SemS :=
  (semSeqS (semRet (semBin pSub1 (fz (semBin pSub1 (semNh 0) (semC (.int 2)))) (fz (semCall cs__law_index [.one (fz (semBin pSub1 (semNh 0) (semC (.int 0)))), .one (semNv 1)])))) semNx)
def cs__law_value : Cs := mkCs 2 [0, 1] b__law_value
/-! _law_made_of -/
def b__law_made_of : SemS :=
  (semSeqS (semRet (semCallB pTuple [.one (fz (semComp [2] (.one 2) (semRange1 [.one (fz (semCallB pLen [.one (fz (semBin pSub1 (semNh 1) (semC (.int 0))))]))]) (fun s => .ok true s) (fz (semCall cs__law_value [.one (semNv 0), .one (fz (semComp [3] (.one 3) (semSeq (semNv 1)) (fun s => .ok true s) (fz (semBin pSub1 (semNh 3) (semNh 2)))))]))))])) semNx)
def cs__law_made_of : Cs := mkCs 4 [0, 1] b__law_made_of
/-! _law_closed -/
def b__law_closed : SemS :=
  (semSeqS (semSet 3 (semCallB pDictP [.one (fz (semComp [9] (.one 9) (semSeq (semNv 1)) (fun s => .ok true s) (fz (semTup [.one (semNv 9), .one (semC (.bool true))]))))])) (semSeqS (semFor (.one 4) (semRange1 [.one (fz (semBin pAdd (semNh 2) (semC (.int 1))))]) (semSeqS (semSet 5 semDic0) (semSeqS (semSet 6 (semCallB pSorted [.one (semNh 3)])) (semSeqS (semFor (.one 7) (semSeq (semNv 0)) (semSeqS (semIfS (semCmpB pGt (fz (semCallB pLen [.one (semNh 6)])) (fz (semBin pMul (fz (semBin pSub1 (fz (semLst [.one (semC (.int 0)), .one (semC (.int 300)), .one (semC (.int 60)), .one (semC (.int 14)), .one (semC (.int 9))])) (fz (semCallB pMin [.one (semC (.int 4)), .one (fz (semBin pSub1 (semNh 7) (semC (.int 1))))])))) (semC (.int 4))))) (semSeqS (semRet (semC .none)) semNx) semNx) (semSeqS (semFor (.one 8) (semSeq (fz (semCall cs__law_choices [.one (semNv 6), .one (fz (semBin pSub1 (semNh 7) (semC (.int 1))))]))) (semSeqS (semSet 9 (semCall cs__law_made_of [.one (semNv 7), .one (semNv 8)])) (semSeqS (semIfS (semCmpB pNotIn (semNh 9) (semNh 3)) (semSeqS (semSetIx 5 (semNh 9) (semC (.bool true))) semNx) semNx) semNx))) semNx))) (semSeqS (semIfS (semNot (semTru (semNh 5))) (semSeqS (semRet (semNm 6)) semNx) semNx) (semSeqS (semExpr (semMut "dict" mUpdate 3 [.one (semNv 5)])) (semSeqS (semIfS (semCmpB pGt (fz (semCallB pLen [.one (semNh 3)])) (semNh 2)) (semSeqS (semRet (semC .none)) semNx) semNx) semNx))))))) (semSeqS (semRet (semC .none)) semNx)))
def cs__law_closed : Cs := mkCs 10 [0, 1, 2] b__law_closed
/-! _law_broken -/
def b__law_broken : SemS :=
  (semSeqS (semFor (.one 2) (semSeq (fz (semCall cs__law_choices [.one (fz (semBin pSub1 (semNh 1) (semC (.int 2)))), .one (fz (semBin pSub1 (semNh 0) (semC (.int 1))))]))) (semSeqS (semIfS (semCmpB pNotIn (fz (semCall cs__law_made_of [.one (semNv 0), .one (semNv 2)])) (fz (semBin pSub1 (semNh 1) (semC (.int 2))))) (semSeqS (semRet (semNm 2)) semNx) semNx) semNx)) (semSeqS (semRet (semC .none)) semNx))
def cs__law_broken : Cs := mkCs 3 [0, 1] b__law_broken
/-! are_broken -/
def b_are_broken : SemS :=
  (semSeqS (semExpr (semCall cs_check_asked [.one (semNv 0), .one (semNv 1)])) (semSeqS (semSet 3 (semDComp [4] (.one 4) (semSeq (fz (semBin pSub1 (semNh 1) (semC (.int 2))))) (fun s => .ok true s) (semNv 4) (semC (.bool true)))) (semSeqS (semIfS (semOr (semCmpB pNe (fz (semCallB pLen [.one (semNh 2)])) (fz (semBin pSub1 (semNh 0) (semC (.int 1))))) (semNot (semTru (fz (semCallB pAll [.one (fz (semComp [4] (.one 4) (semSeq (semNv 2)) (fun s => .ok true s) (fz (semBin pIn (semNh 4) (semNh 3)))))]))))) (semSeqS (semRet (semC (.bool false))) semNx) semNx) (semSeqS (semRet (semBin pNotIn (fz (semCall cs_made_of [.one (semNv 0), .one (semNv 2)])) (semNh 3))) semNx))))
def cs_are_broken : Cs := mkCs 5 [0, 1, 2] b_are_broken
/-! _law_asked -/
def b__law_asked : SemS :=
  (semSeqS (semTry kindOf 4 (semSeqS (semRet (semIf (semCmpB pLt (semNh 0) (semC (.int 2))) (semPick [cs_keeps, cs_broken_rows] (semNh 0) [.one (semNv 1), .one (semNv 2)]) (semCall cs_are_broken [.one (semNv 1), .one (semNv 2), .one (semNv 3)]))) semNx)) semNx)
def cs__law_asked : Cs := mkCs 5 [0, 1, 2, 3] b__law_asked
/-! law -/
def b_law : SemS :=
  (semSeqS (semSet 1 (semCall cs__law_draws [.one (semNv 0)])) (semSeqS (semSet 1 (semCall cs__law_more [.one (semNh 1), .one (semC (.int 200))])) (semSeqS (semSet 2 (semTup [.one (semC (.int 2)), .one (semC (.int 2)), .one (fz (semTup [.one (fz (semTup [.one (semC (.int 0)), .one (semC (.int 0))])), .one (fz (semTup [.one (semC (.int 0)), .one (semC (.int 1))])), .one (fz (semTup [.one (semC (.int 1)), .one (semC (.int 1))]))]))])) (semSeqS (semIfS (semCmpB pNe (fz (semCallB pRepr [.one (fz (semLst [.one (fz (semCall cs_broken_rows [.one (fz (semTup [.one (semC (.int 2)), .one (semC (.int 2)), .one (fz (semTup [.one (semC (.int 1)), .one (semC (.int 1)), .one (semC (.int 1)), .one (semC (.int 0))]))])), .one (semNv 2)])), .one (fz (semCall cs_keeps [.one (fz (semTup [.one (semC (.int 2)), .one (semC (.int 2)), .one (fz (semTup [.one (semC (.int 0)), .one (semC (.int 0)), .one (semC (.int 0)), .one (semC (.int 1))]))])), .one (semNv 2)]))]))])) (fz (semCallB pRepr [.one (fz (semLst [.one (fz (semTup [.one (fz (semTup [.one (semC (.int 0)), .one (semC (.int 1))])), .one (fz (semTup [.one (semC (.int 0)), .one (semC (.int 1))]))])), .one (semC (.bool true))]))]))) (semSeqS (semRet (semC (.bool false))) semNx) semNx) (semSeqS (semSet 3 (semBin pAdd (semC (.int 2)) (fz (semBin pMod (fz (semCallB pInt [.one (fz (semCall cs__law_next [.one (semNh 1)]))])) (semC (.int 2)))))) (semSeqS (semSet 4 (semBin pAdd (semC (.int 1)) (fz (semBin pMod (fz (semCallB pInt [.one (fz (semCall cs__law_next [.one (semNh 1)]))])) (semC (.int 3)))))) (semSeqS (semSet 5 (semCall cs__law_pick [.one (semNh 1), .one (fz (semLst [.one (semC (.int 2)), .one (semC (.int 3)), .one (semC (.int 4))]))])) (semSeqS (semSet 6 (semComp [19] (.one 19) (semSeq (fz (semCall cs__law_tuples [.one (semNv 3), .one (semNv 4)]))) (semCmpB pEq (fz (semBin pMod (fz (semCallB pInt [.one (fz (semCall cs__law_next [.one (semNh 1)]))])) (semNh 5))) (semC (.int 0))) (semNv 19))) (semSeqS (semSet 7 (semCall cs__law_operation [.one (semNh 1), .one (semNv 3)])) (semSeqS (semIfS (semCmpB pEq (fz (semBin pMod (fz (semCallB pInt [.one (fz (semCall cs__law_next [.one (semNh 1)]))])) (semC (.int 2)))) (semC (.int 0))) (semSeqS (semSet 8 (semCall cs__law_closed [.one (fz (semTup [.one (semNv 7)])), .one (semNv 6), .one (semC (.int 30))])) (semSeqS (semSet 6 (semIf (semCmpB pIs (semNh 8) (semC .none)) (semNv 6) (semNv 8))) semNx)) semNx) (semSeqS (semSet 9 (semTup [.one (semNv 3), .one (semNv 4), .one (fz (semCallB pTuple [.one (fz (semCallB pSorted [.one (semNh 6)]))]))])) (semSeqS (semIfS (semAnd (semCmpB pGt (fz (semCallB pLen [.one (semNh 6)])) (semC (.int 15))) (semCmpB pGt (fz (semBin pSub1 (semNh 7) (semC (.int 1)))) (semC (.int 2)))) (semSeqS (semSet 9 (semTup [.one (semNv 3), .one (semNv 4), .one (fz (semCallB pTuple [.one (fz (semCallB pSorted [.one (fz (semSlice (semNh 6) none (some (semC (.int 15)))))]))]))])) semNx) semNx) (semSeqS (semSet 10 (semCall cs__law_broken [.one (semNv 7), .one (semNv 9)])) (semSeqS (semIfS (semCmpB pNe (fz (semCallB pRepr [.one (fz (semComp [20] (.one 20) (semRange1 [.one (semC (.int 2))]) (fun s => .ok true s) (fz (semCall cs__law_asked [.one (semNv 20), .one (semNv 7), .one (semNv 9), .one (semC .none)]))))])) (fz (semCallB pRepr [.one (fz (semLst [.one (fz (semBin pIs (semNh 10) (semC .none))), .one (semNv 10)]))]))) (semSeqS (semRet (semC (.bool false))) semNx) semNx) (semSeqS (semSet 11 (semLst [.one (fz (semIf (semCmpB pIs (semNh 10) (semC .none)) (semTup []) (semNv 10))), .one (fz (semIf (semTru (fz (semBin pSub1 (semNh 9) (semC (.int 2))))) (semCallB pTuple [.one (fz (semComp [21] (.one 21) (semRange1 [.one (fz (semBin pSub1 (semNh 7) (semC (.int 1))))]) (fun s => .ok true s) (fz (semCall cs__law_pick [.one (semNh 1), .one (fz (semBin pSub1 (semNh 9) (semC (.int 2))))]))))]) (semTup [.one (fz (semBin pMul (fz (semTup [.one (semC (.int 0))])) (semNh 4)))]))), .one (fz (semBin pMul (fz (semTup [.one (fz (semBin pMul (fz (semTup [.one (semC (.int 9))])) (semNh 4)))])) (fz (semBin pSub1 (semNh 7) (semC (.int 1)))))), .one (fz (semTup []))])) (semSeqS (semFor (.one 12) (semSeq (fz (semBin pAdd (semNh 11) (fz (semLst [.one (fz (semCallB pTuple [.one (fz (semSlice (fz (semBin pSub1 (semNh 11) (semC (.int 0)))) none (some (fz (semUn pNeg (semC (.int 1)))))))]))]))))) (semSeqS (semSet 13 (semAndV (fz (semBin pEq (fz (semCallB pLen [.one (semNh 12)])) (fz (semBin pSub1 (semNh 7) (semC (.int 1)))))) (semAndV (fz (semCallB pAll [.one (fz (semComp [19] (.one 19) (semSeq (semNv 12)) (fun s => .ok true s) (fz (semBin pIn (semNh 19) (fz (semBin pSub1 (semNh 9) (semC (.int 2))))))))])) (semBin pNotIn (fz (semCall cs__law_made_of [.one (semNv 7), .one (semNv 12)])) (fz (semBin pSub1 (semNh 9) (semC (.int 2)))))))) (semSeqS (semIfS (semCmpB pNe (fz (semCallB pRepr [.one (fz (semCall cs__law_asked [.one (semC (.int 2)), .one (semNv 7), .one (semNv 9), .one (semNv 12)]))])) (fz (semCallB pRepr [.one (semNh 13)]))) (semSeqS (semRet (semC (.bool false))) semNx) semNx) semNx))) (semSeqS (semSet 14 (semLst [.one (fz (semTup [.one (semC (.int 1)), .one (semC (.int 1)), .one (fz (semTup []))])), .one (fz (semTup [.one (semC (.int 4)), .one (semC (.int 1)), .one (fz (semTup []))])), .one (fz (semTup [.one (semNv 3), .one (semC (.int 0)), .one (fz (semTup []))])), .one (fz (semTup [.one (semNv 3), .one (semC (.int 28)), .one (fz (semTup []))])), .one (fz (semTup [.one (semNv 3), .one (semC (.int 1)), .one (fz (semTup [.one (fz (semTup [.one (semC (.int 0))])), .one (fz (semTup [.one (semC (.int 0))]))]))])), .one (fz (semTup [.one (semNv 3), .one (semC (.int 1)), .one (fz (semTup [.one (fz (semTup [.one (semC (.int 1))])), .one (fz (semTup [.one (semC (.int 0))]))]))])), .one (fz (semTup [.one (semNv 3), .one (semC (.int 2)), .one (fz (semTup [.one (fz (semTup [.one (semC (.int 0))]))]))])), .one (fz (semTup [.one (semNv 3), .one (semC (.int 1)), .one (fz (semTup [.one (fz (semTup [.one (semNv 3)]))]))])), .one (fz (semTup [.one (semNv 3), .one (semC (.int 1)), .one (fz (semTup [.one (fz (semTup [.one (fz (semUn pNeg (semC (.int 1))))]))]))]))])) (semSeqS (semIfS (semCmpB pNe (fz (semComp [12] (.one 12) (semSeq (fz (semBin pAdd (semNh 14) (fz (semLst [.one (semNv 9), .one (fz (semTup [.one (semNv 3), .one (semC (.int 27)), .one (fz (semTup [.one (fz (semBin pMul (fz (semTup [.one (semC (.int 0))])) (semC (.int 27))))]))])), .one (fz (semTup [.one (semNv 3), .one (semC (.int 1)), .one (fz (semTup []))]))]))))) (fun s => .ok true s) (fz (semCall cs_is_relation [.one (semNv 12)])))) (fz (semBin pAdd (fz (semBin pMul (fz (semLst [.one (semC (.bool false))])) (semC (.int 9)))) (fz (semBin pMul (fz (semLst [.one (semC (.bool true))])) (semC (.int 3))))))) (semSeqS (semRet (semC (.bool false))) semNx) semNx) (semSeqS (semAsg (.tup (.cons (.one 15) (.cons (.one 16) .nil))) (semTup [.one (fz (semCall cs__law_pick [.one (semNh 1), .one (semNv 14)])), .one (fz (semTup [.one (fz (semBin pSub (semC (.int 5)) (semNh 3))), .one (semC (.int 1)), .one (fz (semTup [.one (fz (semTup [.one (semC (.int 0))]))]))]))])) (semSeqS (semSet 17 (semBin pAdd (fz (semBin pAdd (fz (semComp [20] (.one 20) (semRange1 [.one (semC (.int 3))]) (fun s => .ok true s) (fz (semCall cs__law_asked [.one (semNv 20), .one (fz (semTup [.one (semNv 3), .one (semC (.int 1)), .one (fz (semBin pMul (fz (semTup [.one (semC (.int 9))])) (semNh 3)))])), .one (semNv 15), .one (fz (semTup []))])))) (fz (semComp [20] (.one 20) (semRange1 [.one (semC (.int 3))]) (fun s => .ok true s) (fz (semCall cs__law_asked [.one (semNv 20), .one (semNv 7), .one (semNv 15), .one (fz (semTup []))])))))) (fz (semComp [20] (.one 20) (semRange1 [.one (semC (.int 3))]) (fun s => .ok true s) (fz (semCall cs__law_asked [.one (semNv 20), .one (semNv 7), .one (semNv 16), .one (fz (semTup []))])))))) (semSeqS (semSet 18 (semTup [.one (semC (.int 2)), .one (semC (.int 10)), .one (fz (semCallB pTuple [.one (fz (semSlice (fz (semCall cs__law_tuples [.one (semC (.int 2)), .one (semC (.int 10))])) none (some (semC (.int 548)))))]))])) (semSeqS (semSet 17 (semBin pAdd (semNh 17) (fz (semComp [20] (.one 20) (semRange1 [.one (semC (.int 2))]) (fun s => .ok true s) (fz (semCall cs__law_asked [.one (semNv 20), .one (fz (semTup [.one (semC (.int 2)), .one (semC (.int 2)), .one (fz (semTup [.one (semC (.int 0)), .one (semC (.int 0)), .one (semC (.int 0)), .one (semC (.int 1))]))])), .one (semNv 18), .one (fz (semTup []))])))))) (semSeqS (semRet (semBin pEq (semNh 17) (fz (semBin pAdd (fz (semBin pAdd (fz (semBin pAdd (fz (semBin pMul (fz (semLst [.one (semC (.str "!operation"))])) (semC (.int 3)))) (fz (semBin pMul (fz (semLst [.one (semC (.str "!relation"))])) (semC (.int 3)))))) (fz (semBin pMul (fz (semLst [.one (semC (.str "!number"))])) (semC (.int 3)))))) (fz (semBin pMul (fz (semLst [.one (semC (.str "!large"))])) (semC (.int 2)))))))) semNx)))))))))))))))))))))))
def cs_law : Cs := mkCs 22 [0] b_law
end LW
end
section
set_option Elab.async false
set_option linter.all false
set_option maxRecDepth 100000
set_option autoImplicit false
set_option maxHeartbeats 4000000
namespace LW
open PySem PySem.Spec PyProof.Rows L2 EV
abbrev top (i : Nat) : Stmt := PySem.Challenge.pw_madefrom_k02_relations_that_are_kept.main.body.getD i (.Pass ⟨0, 0, 0, 0⟩)

/-! _law_number -/
abbrev t__law_number : Stmt := top 36
theorem sc__law_number : FnScope ["cell"] ["cell"] (defScope t__law_number) := ⟨rfl, rfl, rfl, by decide +kernel, rfl, by decide +kernel, by decide +kernel⟩
theorem d__law_number {T : Tx} {k : Nat}  : DSs T ["cell"] (defScope t__law_number) true [0] k (defBody t__law_number) (b__law_number) :=
  (dss_cons (ds_if (dt_cmp o_lt (de_nh (i := 0) rfl (by first | exact Or.inl rfl | exact Or.inr (Or.inl rfl) | exact Or.inr (Or.inr rfl)) rfl rfl) de_int (lasts_nh 0) (lasts_C _) rfl) (dss_cons (ds_ret (de_op o_sub de_int (de_nh (i := 0) rfl (by first | exact Or.inl rfl | exact Or.inr (Or.inl rfl) | exact Or.inr (Or.inr rfl)) rfl rfl) (lasts_C _) (lasts_nh 0))) dss_nil) dss_nil) (dss_cons (ds_ret (de_nm (i := 0) rfl (by first | exact Or.inl rfl | exact Or.inr (Or.inl rfl) | exact Or.inr (Or.inr rfl)) rfl rfl)) dss_nil))
/-! _law_draws -/
abbrev t__law_draws : Stmt := top 37
theorem sc__law_draws : FnScope ["script", "draws", "cell", "rest", "k", "once", "twice"] ["script"] (defScope t__law_draws) := ⟨rfl, rfl, rfl, by decide +kernel, rfl, by decide +kernel, by decide +kernel⟩
theorem d__law_draws {T : Tx} {k : Nat} (G : ∀ x ∈ (["int", "range"] : List Str), T.mg x = none) (C__law_number : CallE T k "_law_number" 1 cs__law_number) : DSs T ["script", "draws", "cell", "rest", "k", "once", "twice"] (defScope t__law_draws) true [0] k (defBody t__law_draws) (b__law_draws) :=
  (dss_cons (ds_set (de_lst da_nil) rfl rfl (by decide) (.inl rfl)) (dss_cons (ds_for rfl (di_seq (de_nv (i := 0) rfl (by first | exact Or.inl rfl | exact Or.inr (Or.inl rfl) | exact Or.inr (Or.inr rfl)) rfl rfl)) rfl rfl (dss_cons (ds_set (de_call C__law_number (da_cons (de_nv (i := 2) rfl (by first | exact Or.inl rfl | exact Or.inr (Or.inl rfl) | exact Or.inr (Or.inr rfl)) rfl rfl) (lasts_nv 2) da_nil rfl) (fun _ _ _ h => semArgs_len1 rfl h) rfl rfl rfl) rfl rfl (by decide) (.inl rfl)) (dss_cons (ds_if (dt_cmp o_ge (de_nh (i := 3) rfl (by first | exact Or.inl rfl | exact Or.inr (Or.inl rfl) | exact Or.inr (Or.inr rfl)) rfl rfl) de_int (lasts_nh 3) (lasts_C _) rfl) (dss_cons (ds_for rfl (di_range1 (da_cons de_int (lasts_C _) da_nil rfl) rfl (G _ (by decide)) rfl) rfl rfl (dss_cons (ds_if (dt_cmp o_eq (de_nh (i := 3) rfl (by first | exact Or.inl rfl | exact Or.inr (Or.inl rfl) | exact Or.inr (Or.inr rfl)) rfl rfl) de_int (lasts_nh 3) (lasts_C _) rfl) (dss_cons ds_break dss_nil) dss_nil) (dss_cons (ds_expr (de_mut pa_list EV.slot_list_append EV.ty_list_append m_append (i := 1) rfl (by first | exact Or.inl rfl | exact Or.inr (Or.inl rfl) | exact Or.inr (Or.inr rfl)) rfl rfl (da_cons (de_fz (de_op o_mod (de_fz (de_callTy c_int (da_cons (de_nh (i := 3) rfl (by first | exact Or.inl rfl | exact Or.inr (Or.inl rfl) | exact Or.inr (Or.inr rfl)) rfl rfl) (lasts_nh 3) da_nil rfl) rfl (G _ (by decide)) (by first | rfl | decide +kernel) (by decide) rfl rfl)) de_int (lasts_fz _) (lasts_C _))) (lasts_fz _) da_nil rfl) rfl rfl (by decide)) rfl) (dss_cons (ds_set (de_op o_div (de_nh (i := 3) rfl (by first | exact Or.inl rfl | exact Or.inr (Or.inl rfl) | exact Or.inr (Or.inr rfl)) rfl rfl) de_int (lasts_nh 3) (lasts_C _)) rfl rfl (by decide) (.inl rfl)) dss_nil))) rfl) dss_nil) (dss_cons (ds_set (de_op o_mod (de_fz (de_callTy c_int (da_cons (de_fz (de_op o_add (de_fz (de_op o_mul (de_nh (i := 3) rfl (by first | exact Or.inl rfl | exact Or.inr (Or.inl rfl) | exact Or.inr (Or.inr rfl)) rfl rfl) de_int (lasts_nh 3) (lasts_C _))) de_int (lasts_fz _) (lasts_C _))) (lasts_fz _) da_nil rfl) rfl (G _ (by decide)) (by first | rfl | decide +kernel) (by decide) rfl rfl)) de_int (lasts_fz _) (lasts_C _)) rfl rfl (by decide) (.inl rfl)) (dss_cons (ds_set (de_op o_mod (de_fz (de_callTy c_int (da_cons (de_fz (de_op o_add (de_fz (de_op o_mul (de_nh (i := 5) rfl (by first | exact Or.inl rfl | exact Or.inr (Or.inl rfl) | exact Or.inr (Or.inr rfl)) rfl rfl) de_int (lasts_nh 5) (lasts_C _))) (de_nh (i := 3) rfl (by first | exact Or.inl rfl | exact Or.inr (Or.inl rfl) | exact Or.inr (Or.inr rfl)) rfl rfl) (lasts_fz _) (lasts_nh 3))) (lasts_fz _) da_nil rfl) rfl (G _ (by decide)) (by first | rfl | decide +kernel) (by decide) rfl rfl)) de_int (lasts_fz _) (lasts_C _)) rfl rfl (by decide) (.inl rfl)) (dss_cons (ds_expr (de_mut pa_list EV.slot_list_extend EV.ty_list_extend m_extend (i := 1) rfl (by first | exact Or.inl rfl | exact Or.inr (Or.inl rfl) | exact Or.inr (Or.inr rfl)) rfl rfl (da_cons (de_fz (de_lst (da_cons (de_fz (de_op o_mod (de_fz (de_callTy c_int (da_cons (de_nh (i := 3) rfl (by first | exact Or.inl rfl | exact Or.inr (Or.inl rfl) | exact Or.inr (Or.inr rfl)) rfl rfl) (lasts_nh 3) da_nil rfl) rfl (G _ (by decide)) (by first | rfl | decide +kernel) (by decide) rfl rfl)) de_int (lasts_fz _) (lasts_C _))) (lasts_fz _) (da_cons (de_fz (de_op o_mod (de_fz (de_callTy c_int (da_cons (de_nh (i := 5) rfl (by first | exact Or.inl rfl | exact Or.inr (Or.inl rfl) | exact Or.inr (Or.inr rfl)) rfl rfl) (lasts_nh 5) da_nil rfl) rfl (G _ (by decide)) (by first | rfl | decide +kernel) (by decide) rfl rfl)) de_int (lasts_fz _) (lasts_C _))) (lasts_fz _) (da_cons (de_fz (de_op o_mod (de_fz (de_callTy c_int (da_cons (de_nh (i := 6) rfl (by first | exact Or.inl rfl | exact Or.inr (Or.inl rfl) | exact Or.inr (Or.inr rfl)) rfl rfl) (lasts_nh 6) da_nil rfl) rfl (G _ (by decide)) (by first | rfl | decide +kernel) (by decide) rfl rfl)) de_int (lasts_fz _) (lasts_C _))) (lasts_fz _) da_nil rfl) rfl) rfl))) (lasts_fz _) da_nil rfl) rfl rfl (by decide)) rfl) dss_nil)))) dss_nil)) rfl) (dss_cons (ds_expr (de_mut0 pa_list EV.slot_list_reverse EV.ty_list_reverse m_reverse (i := 1) rfl (by first | exact Or.inl rfl | exact Or.inr (Or.inl rfl) | exact Or.inr (Or.inr rfl)) rfl rfl rfl) rfl) (dss_cons (ds_ret (de_nm (i := 1) rfl (by first | exact Or.inl rfl | exact Or.inr (Or.inl rfl) | exact Or.inr (Or.inr rfl)) rfl rfl)) dss_nil))))
/-! _law_next -/
abbrev t__law_next : Stmt := top 38
theorem sc__law_next : FnScope ["draws"] ["draws"] (defScope t__law_next) := ⟨rfl, rfl, rfl, by decide +kernel, rfl, by decide +kernel, by decide +kernel⟩
theorem d__law_next {T : Tx} {k : Nat}  : DSs T ["draws"] (defScope t__law_next) true [0] k (defBody t__law_next) (b__law_next) :=
  (dss_cons (ds_if (dt_tru (de_nh (i := 0) rfl (by first | exact Or.inl rfl | exact Or.inr (Or.inl rfl) | exact Or.inr (Or.inr rfl)) rfl rfl) (lasts_nh 0) rfl) (dss_cons (ds_ret (de_mut0 pa_list EV.slot_list_pop EV.ty_list_pop m_pop (i := 0) rfl (by first | exact Or.inl rfl | exact Or.inr (Or.inl rfl) | exact Or.inr (Or.inr rfl)) rfl rfl rfl)) dss_nil) dss_nil) (dss_cons (ds_ret de_int) dss_nil))
/-! _law_more -/
abbrev t__law_more : Stmt := top 39
theorem sc__law_more : FnScope ["draws", "many", "seed", "more", "k"] ["draws", "many"] (defScope t__law_more) := ⟨rfl, rfl, rfl, by decide +kernel, rfl, by decide +kernel, by decide +kernel⟩
theorem d__law_more {T : Tx} {k : Nat} (G : ∀ x ∈ (["int", "range"] : List Str), T.mg x = none) (C__law_next : CallE T k "_law_next" 1 cs__law_next) : DSs T ["draws", "many", "seed", "more", "k"] (defScope t__law_more) true [0, 1] k (defBody t__law_more) (b__law_more) :=
  (dss_cons (ds_set (de_op o_add (de_fz (de_op o_add (de_fz (de_op o_mul de_int (de_fz (de_call C__law_next (da_cons (de_nh (i := 0) rfl (by first | exact Or.inl rfl | exact Or.inr (Or.inl rfl) | exact Or.inr (Or.inr rfl)) rfl rfl) (lasts_nh 0) da_nil rfl) (fun _ _ _ h => semArgs_len1 rfl h) rfl rfl rfl)) (lasts_C _) (lasts_fz _))) (de_fz (de_call C__law_next (da_cons (de_nh (i := 0) rfl (by first | exact Or.inl rfl | exact Or.inr (Or.inl rfl) | exact Or.inr (Or.inr rfl)) rfl rfl) (lasts_nh 0) da_nil rfl) (fun _ _ _ h => semArgs_len1 rfl h) rfl rfl rfl)) (lasts_fz _) (lasts_fz _))) de_int (lasts_fz _) (lasts_C _)) rfl rfl (by decide) (.inl rfl)) (dss_cons (ds_set (de_lst da_nil) rfl rfl (by decide) (.inl rfl)) (dss_cons (ds_for rfl (di_range1 (da_cons (de_nh (i := 1) rfl (by first | exact Or.inl rfl | exact Or.inr (Or.inl rfl) | exact Or.inr (Or.inr rfl)) rfl rfl) (lasts_nh 1) da_nil rfl) rfl (G _ (by decide)) rfl) rfl rfl (dss_cons (ds_set (de_op o_mod (de_fz (de_callTy c_int (da_cons (de_fz (de_op o_add (de_fz (de_op o_mul (de_nh (i := 2) rfl (by first | exact Or.inl rfl | exact Or.inr (Or.inl rfl) | exact Or.inr (Or.inr rfl)) rfl rfl) de_int (lasts_nh 2) (lasts_C _))) de_int (lasts_fz _) (lasts_C _))) (lasts_fz _) da_nil rfl) rfl (G _ (by decide)) (by first | rfl | decide +kernel) (by decide) rfl rfl)) de_int (lasts_fz _) (lasts_C _)) rfl rfl (by decide) (.inl rfl)) (dss_cons (ds_expr (de_mut pa_list EV.slot_list_append EV.ty_list_append m_append (i := 3) rfl (by first | exact Or.inl rfl | exact Or.inr (Or.inl rfl) | exact Or.inr (Or.inr rfl)) rfl rfl (da_cons (de_fz (de_op o_mod (de_fz (de_callTy c_int (da_cons (de_fz (de_op o_div (de_nh (i := 2) rfl (by first | exact Or.inl rfl | exact Or.inr (Or.inl rfl) | exact Or.inr (Or.inr rfl)) rfl rfl) de_int (lasts_nh 2) (lasts_C _))) (lasts_fz _) da_nil rfl) rfl (G _ (by decide)) (by first | rfl | decide +kernel) (by decide) rfl rfl)) de_int (lasts_fz _) (lasts_C _))) (lasts_fz _) da_nil rfl) rfl rfl (by decide)) rfl) dss_nil)) rfl) (dss_cons (ds_ret (de_op o_add (de_nh (i := 3) rfl (by first | exact Or.inl rfl | exact Or.inr (Or.inl rfl) | exact Or.inr (Or.inr rfl)) rfl rfl) (de_nh (i := 0) rfl (by first | exact Or.inl rfl | exact Or.inr (Or.inl rfl) | exact Or.inr (Or.inr rfl)) rfl rfl) (lasts_nh 3) (lasts_nh 0))) dss_nil))))
/-! tuples_for -/
abbrev t_tuples_for : Stmt := top 14
theorem sc_tuples_for : FnScope ["k", "n", "many", "_"] ["k", "n"] (defScope t_tuples_for) := ⟨rfl, rfl, rfl, by decide +kernel, rfl, by decide +kernel, by decide +kernel⟩
theorem d_tuples_for {T : Tx} {k : Nat} (G : ∀ x ∈ (["min", "range"] : List Str), T.mg x = none) (h_MOST_TUPLES : ∃ u v, T.mg "MOST_TUPLES" = some u ∧ RelV v u ∧ Rp T.K (fun _ => none) v (.int 81)) : DSs T ["k", "n", "many", "_"] (defScope t_tuples_for) true [0, 1] k (defBody t_tuples_for) (b_tuples_for) :=
  (dss_cons (ds_set de_int rfl rfl (by decide) (.inl rfl)) (dss_cons (ds_for rfl (di_range1 (da_cons (de_nh (i := 1) rfl (by first | exact Or.inl rfl | exact Or.inr (Or.inl rfl) | exact Or.inr (Or.inr rfl)) rfl rfl) (lasts_nh 1) da_nil rfl) rfl (G _ (by decide)) rfl) rfl rfl (dss_cons (ds_set (de_callB c_min (da_cons (de_fz (de_op o_mul (de_nh (i := 2) rfl (by first | exact Or.inl rfl | exact Or.inr (Or.inl rfl) | exact Or.inr (Or.inr rfl)) rfl rfl) (de_nh (i := 0) rfl (by first | exact Or.inl rfl | exact Or.inr (Or.inl rfl) | exact Or.inr (Or.inr rfl)) rfl rfl) (lasts_nh 2) (lasts_nh 0))) (lasts_fz _) (da_cons (de_fz (de_op o_add (de_glob rfl h_MOST_TUPLES rfl) de_int (lasts_C _) (lasts_C _))) (lasts_fz _) da_nil rfl) rfl) rfl (G _ (by decide)) (by first | rfl | decide +kernel) (by decide) rfl rfl) rfl rfl (by decide) (.inl rfl)) dss_nil) rfl) (dss_cons (ds_ret (de_nm (i := 2) rfl (by first | exact Or.inl rfl | exact Or.inr (Or.inl rfl) | exact Or.inr (Or.inr rfl)) rfl rfl)) dss_nil)))
/-! is_size -/
abbrev t_is_size : Stmt := top 15
theorem sc_is_size : FnScope ["k", "n"] ["k", "n"] (defScope t_is_size) := ⟨rfl, rfl, rfl, by decide +kernel, rfl, by decide +kernel, by decide +kernel⟩
theorem d_is_size {T : Tx} {k : Nat} (h_MOST_TUPLES : ∃ u v, T.mg "MOST_TUPLES" = some u ∧ RelV v u ∧ Rp T.K (fun _ => none) v (.int 81)) (C_tuples_for : CallE T k "tuples_for" 2 cs_tuples_for) : DSs T ["k", "n"] (defScope t_is_size) true [0, 1] k (defBody t_is_size) (b_is_size) :=
  (dss_cons (ds_ret (de_and (de_fz (de_chain o_le o_le de_int (de_nh (i := 1) rfl (by first | exact Or.inl rfl | exact Or.inr (Or.inl rfl) | exact Or.inr (Or.inr rfl)) rfl rfl) (de_glob rfl h_MOST_TUPLES rfl) (lasts_C _) (lasts_nh 1) (lasts_C _) rfl)) (lasts_fz _) (de_one (de_cmp o_le (de_fz (de_call C_tuples_for (da_cons (de_nv (i := 0) rfl (by first | exact Or.inl rfl | exact Or.inr (Or.inl rfl) | exact Or.inr (Or.inr rfl)) rfl rfl) (lasts_nv 0) (da_cons (de_nv (i := 1) rfl (by first | exact Or.inl rfl | exact Or.inr (Or.inl rfl) | exact Or.inr (Or.inr rfl)) rfl rfl) (lasts_nv 1) da_nil rfl) rfl) (fun _ _ _ h => semArgs_len1 rfl h) rfl rfl rfl)) (de_glob rfl h_MOST_TUPLES rfl) (lasts_fz _) (lasts_C _) rfl)))) dss_nil)
/-! is_operation -/
abbrev t_is_operation : Stmt := top 16
theorem sc_is_operation : FnScope ["operation", "k", "n", "table", "entry"] ["operation"] (defScope t_is_operation) := ⟨rfl, rfl, rfl, by decide +kernel, rfl, by decide +kernel, by decide +kernel⟩
theorem d_is_operation {T : Tx} {k : Nat} (G : ∀ x ∈ (["all", "len"] : List Str), T.mg x = none) (h_FEWEST : ∃ u v, T.mg "FEWEST" = some u ∧ RelV v u ∧ Rp T.K (fun _ => none) v (.int 2)) (h_MOST : ∃ u v, T.mg "MOST" = some u ∧ RelV v u ∧ Rp T.K (fun _ => none) v (.int 3)) (C_is_size : CallE T k "is_size" 2 cs_is_size) (C_tuples_for : CallE T k "tuples_for" 2 cs_tuples_for) : DSs T ["operation", "k", "n", "table", "entry"] (defScope t_is_operation) true [0] k (defBody t_is_operation) (b_is_operation) :=
  (dss_cons (ds_asg rfl (de_nv (i := 0) rfl (by first | exact Or.inl rfl | exact Or.inr (Or.inl rfl) | exact Or.inr (Or.inr rfl)) rfl rfl) rfl rfl rfl) (dss_cons (ds_if (dw_dt (dw_or (dt_not (dt_chain o_le o_le (de_glob rfl h_FEWEST rfl) (de_nh (i := 1) rfl (by first | exact Or.inl rfl | exact Or.inr (Or.inl rfl) | exact Or.inr (Or.inr rfl)) rfl rfl) (de_glob rfl h_MOST rfl) (lasts_C _) (lasts_nh 1) (lasts_C _) rfl)) (dw_or1 (dt_not (dt_tru (de_fz (de_call C_is_size (da_cons (de_nv (i := 1) rfl (by first | exact Or.inl rfl | exact Or.inr (Or.inl rfl) | exact Or.inr (Or.inr rfl)) rfl rfl) (lasts_nv 1) (da_cons (de_nv (i := 2) rfl (by first | exact Or.inl rfl | exact Or.inr (Or.inl rfl) | exact Or.inr (Or.inr rfl)) rfl rfl) (lasts_nv 2) da_nil rfl) rfl) (fun _ _ _ h => semArgs_len1 rfl h) rfl rfl rfl)) (lasts_fz _) rfl))))) (dss_cons (ds_ret de_bl) dss_nil) dss_nil) (dss_cons (ds_ret (de_and (de_fz (de_cmp o_eq (de_fz (de_callB c_len (da_cons (de_nh (i := 3) rfl (by first | exact Or.inl rfl | exact Or.inr (Or.inl rfl) | exact Or.inr (Or.inr rfl)) rfl rfl) (lasts_nh 3) da_nil rfl) rfl (G _ (by decide)) (by first | rfl | decide +kernel) (by decide) rfl rfl)) (de_fz (de_call C_tuples_for (da_cons (de_nv (i := 1) rfl (by first | exact Or.inl rfl | exact Or.inr (Or.inl rfl) | exact Or.inr (Or.inr rfl)) rfl rfl) (lasts_nv 1) (da_cons (de_nv (i := 2) rfl (by first | exact Or.inl rfl | exact Or.inr (Or.inl rfl) | exact Or.inr (Or.inr rfl)) rfl rfl) (lasts_nv 2) da_nil rfl) rfl) (fun _ _ _ h => semArgs_len1 rfl h) rfl rfl rfl)) (lasts_fz _) (lasts_fz _) rfl)) (lasts_fz _) (de_one (de_callB c_all (da_cons (de_fz (de_comp (own := [("entry", 4)]) rfl (di_seq (de_nv (i := 3) rfl (by first | exact Or.inl rfl | exact Or.inr (Or.inl rfl) | exact Or.inr (Or.inr rfl)) rfl rfl)) (by first | rfl | decide +kernel) rfl rfl dc_nil (de_fz (de_chain o_le o_lt de_int (de_nh (i := 4) rfl (by first | exact Or.inl rfl | exact Or.inr (Or.inl rfl) | exact Or.inr (Or.inr rfl)) rfl rfl) (de_nh (i := 1) rfl (by first | exact Or.inl rfl | exact Or.inr (Or.inl rfl) | exact Or.inr (Or.inr rfl)) rfl rfl) (lasts_C _) (lasts_nh 4) (lasts_nh 1) rfl)) rfl)) (lasts_fz _) da_nil rfl) rfl (G _ (by decide)) (by first | rfl | decide +kernel) (by decide) rfl rfl)))) dss_nil)))
/-! check_operation -/
abbrev t_check_operation : Stmt := top 17
theorem sc_check_operation : FnScope ["operation"] ["operation"] (defScope t_check_operation) := ⟨rfl, rfl, rfl, by decide +kernel, rfl, by decide +kernel, by decide +kernel⟩
theorem d_check_operation {T : Tx} {k : Nat} (R_NotOperation : ErrE T "NotOperation") (C_is_operation : CallE T k "is_operation" 1 cs_is_operation) : DSs T ["operation"] (defScope t_check_operation) true [0] k (defBody t_check_operation) (b_check_operation) :=
  (dss_cons (ds_if (dt_not (dt_tru (de_fz (de_call C_is_operation (da_cons (de_nv (i := 0) rfl (by first | exact Or.inl rfl | exact Or.inr (Or.inl rfl) | exact Or.inr (Or.inr rfl)) rfl rfl) (lasts_nv 0) da_nil rfl) (fun _ _ _ h => semArgs_len1 rfl h) rfl rfl rfl)) (lasts_fz _) rfl)) (dss_cons (ds_raise R_NotOperation rfl rfl rfl) dss_nil) dss_nil) dss_nil)
/-! is_row_of -/
abbrev t_is_row_of : Stmt := top 23
theorem sc_is_row_of : FnScope ["k", "m", "row", "entry"] ["k", "m", "row"] (defScope t_is_row_of) := ⟨rfl, rfl, rfl, by decide +kernel, rfl, by decide +kernel, by decide +kernel⟩
theorem d_is_row_of {T : Tx} {k : Nat} (G : ∀ x ∈ (["all", "len"] : List Str), T.mg x = none) : DSs T ["k", "m", "row", "entry"] (defScope t_is_row_of) true [0, 1, 2] k (defBody t_is_row_of) (b_is_row_of) :=
  (dss_cons (ds_ret (de_and (de_fz (de_cmp o_eq (de_fz (de_callB c_len (da_cons (de_nh (i := 2) rfl (by first | exact Or.inl rfl | exact Or.inr (Or.inl rfl) | exact Or.inr (Or.inr rfl)) rfl rfl) (lasts_nh 2) da_nil rfl) rfl (G _ (by decide)) (by first | rfl | decide +kernel) (by decide) rfl rfl)) (de_nh (i := 1) rfl (by first | exact Or.inl rfl | exact Or.inr (Or.inl rfl) | exact Or.inr (Or.inr rfl)) rfl rfl) (lasts_fz _) (lasts_nh 1) rfl)) (lasts_fz _) (de_one (de_callB c_all (da_cons (de_fz (de_comp (own := [("entry", 3)]) rfl (di_seq (de_nv (i := 2) rfl (by first | exact Or.inl rfl | exact Or.inr (Or.inl rfl) | exact Or.inr (Or.inr rfl)) rfl rfl)) (by first | rfl | decide +kernel) rfl rfl dc_nil (de_fz (de_chain o_le o_lt de_int (de_nh (i := 3) rfl (by first | exact Or.inl rfl | exact Or.inr (Or.inl rfl) | exact Or.inr (Or.inr rfl)) rfl rfl) (de_nh (i := 0) rfl (by first | exact Or.inl rfl | exact Or.inr (Or.inl rfl) | exact Or.inr (Or.inr rfl)) rfl rfl) (lasts_C _) (lasts_nh 3) (lasts_nh 0) rfl)) rfl)) (lasts_fz _) da_nil rfl) rfl (G _ (by decide)) (by first | rfl | decide +kernel) (by decide) rfl rfl)))) dss_nil)
/-! is_relation -/
abbrev t_is_relation : Stmt := top 24
theorem sc_is_relation : FnScope ["relation", "k", "m", "rows", "row", "one", "other"] ["relation"] (defScope t_is_relation) := ⟨rfl, rfl, rfl, by decide +kernel, rfl, by decide +kernel, by decide +kernel⟩
theorem d_is_relation {T : Tx} {k : Nat} (G : ∀ x ∈ (["all", "len", "zip"] : List Str), T.mg x = none) (h_FEWEST : ∃ u v, T.mg "FEWEST" = some u ∧ RelV v u ∧ Rp T.K (fun _ => none) v (.int 2)) (h_MOST : ∃ u v, T.mg "MOST" = some u ∧ RelV v u ∧ Rp T.K (fun _ => none) v (.int 3)) (h_MOST_ROWS : ∃ u v, T.mg "MOST_ROWS" = some u ∧ RelV v u ∧ Rp T.K (fun _ => none) v (.int 4096)) (h_MOST_WIDTH : ∃ u v, T.mg "MOST_WIDTH" = some u ∧ RelV v u ∧ Rp T.K (fun _ => none) v (.int 27)) (C_is_row_of : CallE T k "is_row_of" 3 cs_is_row_of) : DSs T ["relation", "k", "m", "rows", "row", "one", "other"] (defScope t_is_relation) true [0] k (defBody t_is_relation) (b_is_relation) :=
  (dss_cons (ds_asg rfl (de_nv (i := 0) rfl (by first | exact Or.inl rfl | exact Or.inr (Or.inl rfl) | exact Or.inr (Or.inr rfl)) rfl rfl) rfl rfl rfl) (dss_cons (ds_if (dw_dt (dw_or (dt_not (dt_chain o_le o_le (de_glob rfl h_FEWEST rfl) (de_nh (i := 1) rfl (by first | exact Or.inl rfl | exact Or.inr (Or.inl rfl) | exact Or.inr (Or.inr rfl)) rfl rfl) (de_glob rfl h_MOST rfl) (lasts_C _) (lasts_nh 1) (lasts_C _) rfl)) (dw_or (dt_not (dt_chain o_le o_le de_int (de_nh (i := 2) rfl (by first | exact Or.inl rfl | exact Or.inr (Or.inl rfl) | exact Or.inr (Or.inr rfl)) rfl rfl) (de_glob rfl h_MOST_WIDTH rfl) (lasts_C _) (lasts_nh 2) (lasts_C _) rfl)) (dw_or1 (dt_cmp o_gt (de_fz (de_callB c_len (da_cons (de_nh (i := 3) rfl (by first | exact Or.inl rfl | exact Or.inr (Or.inl rfl) | exact Or.inr (Or.inr rfl)) rfl rfl) (lasts_nh 3) da_nil rfl) rfl (G _ (by decide)) (by first | rfl | decide +kernel) (by decide) rfl rfl)) (de_glob rfl h_MOST_ROWS rfl) (lasts_fz _) (lasts_C _) rfl))))) (dss_cons (ds_ret de_bl) dss_nil) dss_nil) (dss_cons (ds_ret (de_and (de_fz (de_callB c_all (da_cons (de_fz (de_comp (own := [("row", 4)]) rfl (di_seq (de_nv (i := 3) rfl (by first | exact Or.inl rfl | exact Or.inr (Or.inl rfl) | exact Or.inr (Or.inr rfl)) rfl rfl)) (by first | rfl | decide +kernel) rfl rfl dc_nil (de_fz (de_call C_is_row_of (da_cons (de_nv (i := 1) rfl (by first | exact Or.inl rfl | exact Or.inr (Or.inl rfl) | exact Or.inr (Or.inr rfl)) rfl rfl) (lasts_nv 1) (da_cons (de_nv (i := 2) rfl (by first | exact Or.inl rfl | exact Or.inr (Or.inl rfl) | exact Or.inr (Or.inr rfl)) rfl rfl) (lasts_nv 2) (da_cons (de_nv (i := 4) rfl (by first | exact Or.inl rfl | exact Or.inr (Or.inl rfl) | exact Or.inr (Or.inr rfl)) rfl rfl) (lasts_nv 4) da_nil rfl) rfl) rfl) (fun _ _ _ h => semArgs_len1 rfl h) rfl rfl rfl)) rfl)) (lasts_fz _) da_nil rfl) rfl (G _ (by decide)) (by first | rfl | decide +kernel) (by decide) rfl rfl)) (lasts_fz _) (de_one (de_callB c_all (da_cons (de_fz (de_comp (own := [("one", 5), ("other", 6)]) rfl (di_zipM (da_cons (de_nv (i := 3) rfl (by first | exact Or.inl rfl | exact Or.inr (Or.inl rfl) | exact Or.inr (Or.inr rfl)) rfl rfl) (lasts_nv 3) (da_cons (de_fz (de_slice (de_nh (i := 3) rfl (by first | exact Or.inl rfl | exact Or.inr (Or.inl rfl) | exact Or.inr (Or.inr rfl)) rfl rfl) (lasts_nh 3) (And.intro de_int (lasts_C _)) True.intro)) (lasts_fz _) da_nil rfl) rfl) rfl (G _ (by decide)) rfl rfl) (by first | rfl | decide +kernel) rfl rfl dc_nil (de_fz (de_cmp o_lt (de_nh (i := 5) rfl (by first | exact Or.inl rfl | exact Or.inr (Or.inl rfl) | exact Or.inr (Or.inr rfl)) rfl rfl) (de_nh (i := 6) rfl (by first | exact Or.inl rfl | exact Or.inr (Or.inl rfl) | exact Or.inr (Or.inr rfl)) rfl rfl) (lasts_nh 5) (lasts_nh 6) rfl)) rfl)) (lasts_fz _) da_nil rfl) rfl (G _ (by decide)) (by first | rfl | decide +kernel) (by decide) rfl rfl)))) dss_nil)))
/-! check_relation -/
abbrev t_check_relation : Stmt := top 25
theorem sc_check_relation : FnScope ["relation"] ["relation"] (defScope t_check_relation) := ⟨rfl, rfl, rfl, by decide +kernel, rfl, by decide +kernel, by decide +kernel⟩
theorem d_check_relation {T : Tx} {k : Nat} (R_NotRelation : ErrE T "NotRelation") (C_is_relation : CallE T k "is_relation" 1 cs_is_relation) : DSs T ["relation"] (defScope t_check_relation) true [0] k (defBody t_check_relation) (b_check_relation) :=
  (dss_cons (ds_if (dt_not (dt_tru (de_fz (de_call C_is_relation (da_cons (de_nv (i := 0) rfl (by first | exact Or.inl rfl | exact Or.inr (Or.inl rfl) | exact Or.inr (Or.inr rfl)) rfl rfl) (lasts_nv 0) da_nil rfl) (fun _ _ _ h => semArgs_len1 rfl h) rfl rfl rfl)) (lasts_fz _) rfl)) (dss_cons (ds_raise R_NotRelation rfl rfl rfl) dss_nil) dss_nil) dss_nil)
/-! check_one_k -/
abbrev t_check_one_k : Stmt := top 26
theorem sc_check_one_k : FnScope ["one", "other"] ["one", "other"] (defScope t_check_one_k) := ⟨rfl, rfl, rfl, by decide +kernel, rfl, by decide +kernel, by decide +kernel⟩
theorem d_check_one_k {T : Tx} {k : Nat} (R_BadNumber : ErrE T "BadNumber") : DSs T ["one", "other"] (defScope t_check_one_k) true [0, 1] k (defBody t_check_one_k) (b_check_one_k) :=
  (dss_cons (ds_if (dt_cmp o_ne (de_fz (de_ix o_ix (de_nh (i := 0) rfl (by first | exact Or.inl rfl | exact Or.inr (Or.inl rfl) | exact Or.inr (Or.inr rfl)) rfl rfl) de_int (lasts_nh 0) (lasts_C _) rfl)) (de_fz (de_ix o_ix (de_nh (i := 1) rfl (by first | exact Or.inl rfl | exact Or.inr (Or.inl rfl) | exact Or.inr (Or.inr rfl)) rfl rfl) de_int (lasts_nh 1) (lasts_C _) rfl)) (lasts_fz _) (lasts_fz _) rfl) (dss_cons (ds_raise R_BadNumber rfl rfl rfl) dss_nil) dss_nil) dss_nil)
/-! check_asked -/
abbrev t_check_asked : Stmt := top 31
theorem sc_check_asked : FnScope ["operation", "relation"] ["operation", "relation"] (defScope t_check_asked) := ⟨rfl, rfl, rfl, by decide +kernel, rfl, by decide +kernel, by decide +kernel⟩
theorem d_check_asked {T : Tx} {k : Nat} (C_check_operation : CallE T k "check_operation" 1 cs_check_operation) (C_check_relation : CallE T k "check_relation" 1 cs_check_relation) (C_check_one_k : CallE T k "check_one_k" 2 cs_check_one_k) : DSs T ["operation", "relation"] (defScope t_check_asked) true [0, 1] k (defBody t_check_asked) (b_check_asked) :=
  (dss_cons (ds_expr (de_call C_check_operation (da_cons (de_nv (i := 0) rfl (by first | exact Or.inl rfl | exact Or.inr (Or.inl rfl) | exact Or.inr (Or.inr rfl)) rfl rfl) (lasts_nv 0) da_nil rfl) (fun _ _ _ h => semArgs_len1 rfl h) rfl rfl rfl) rfl) (dss_cons (ds_expr (de_call C_check_relation (da_cons (de_nv (i := 1) rfl (by first | exact Or.inl rfl | exact Or.inr (Or.inl rfl) | exact Or.inr (Or.inr rfl)) rfl rfl) (lasts_nv 1) da_nil rfl) (fun _ _ _ h => semArgs_len1 rfl h) rfl rfl rfl) rfl) (dss_cons (ds_expr (de_call C_check_one_k (da_cons (de_nv (i := 0) rfl (by first | exact Or.inl rfl | exact Or.inr (Or.inl rfl) | exact Or.inr (Or.inr rfl)) rfl rfl) (lasts_nv 0) (da_cons (de_nv (i := 1) rfl (by first | exact Or.inl rfl | exact Or.inr (Or.inl rfl) | exact Or.inr (Or.inr rfl)) rfl rfl) (lasts_nv 1) da_nil rfl) rfl) (fun _ _ _ h => semArgs_len1 rfl h) rfl rfl rfl) rfl) dss_nil)))
/-! power_of -/
abbrev t_power_of : Stmt := top 28
theorem sc_power_of : FnScope ["number", "n", "found", "_"] ["number", "n"] (defScope t_power_of) := ⟨rfl, rfl, rfl, by decide +kernel, rfl, by decide +kernel, by decide +kernel⟩
theorem d_power_of {T : Tx} {k : Nat} (G : ∀ x ∈ (["min", "range"] : List Str), T.mg x = none) (h_MOST_LOOKS : ∃ u v, T.mg "MOST_LOOKS" = some u ∧ RelV v u ∧ Rp T.K (fun _ => none) v (.int 300000)) : DSs T ["number", "n", "found", "_"] (defScope t_power_of) true [0, 1] k (defBody t_power_of) (b_power_of) :=
  (dss_cons (ds_set de_int rfl rfl (by decide) (.inl rfl)) (dss_cons (ds_for rfl (di_range1 (da_cons (de_nh (i := 1) rfl (by first | exact Or.inl rfl | exact Or.inr (Or.inl rfl) | exact Or.inr (Or.inr rfl)) rfl rfl) (lasts_nh 1) da_nil rfl) rfl (G _ (by decide)) rfl) rfl rfl (dss_cons (ds_set (de_callB c_min (da_cons (de_fz (de_op o_mul (de_nh (i := 2) rfl (by first | exact Or.inl rfl | exact Or.inr (Or.inl rfl) | exact Or.inr (Or.inr rfl)) rfl rfl) (de_nh (i := 0) rfl (by first | exact Or.inl rfl | exact Or.inr (Or.inl rfl) | exact Or.inr (Or.inr rfl)) rfl rfl) (lasts_nh 2) (lasts_nh 0))) (lasts_fz _) (da_cons (de_fz (de_op o_add (de_glob rfl h_MOST_LOOKS rfl) de_int (lasts_C _) (lasts_C _))) (lasts_fz _) da_nil rfl) rfl) rfl (G _ (by decide)) (by first | rfl | decide +kernel) (by decide) rfl rfl) rfl rfl (by decide) (.inl rfl)) dss_nil) rfl) (dss_cons (ds_ret (de_nm (i := 2) rfl (by first | exact Or.inl rfl | exact Or.inr (Or.inl rfl) | exact Or.inr (Or.inr rfl)) rfl rfl)) dss_nil)))
/-! choices -/
abbrev t_choices : Stmt := top 29
theorem sc_choices : FnScope ["rows", "n", "found", "_", "longer", "some", "row"] ["rows", "n"] (defScope t_choices) := ⟨rfl, rfl, rfl, by decide +kernel, rfl, by decide +kernel, by decide +kernel⟩
theorem d_choices {T : Tx} {k : Nat} (G : ∀ x ∈ (["range"] : List Str), T.mg x = none) : DSs T ["rows", "n", "found", "_", "longer", "some", "row"] (defScope t_choices) true [0, 1] k (defBody t_choices) (b_choices) :=
  (dss_cons (ds_set (de_lst (da_cons (de_fz (de_tup da_nil)) (lasts_fz _) da_nil rfl)) rfl rfl (by decide) (.inl rfl)) (dss_cons (ds_for rfl (di_range1 (da_cons (de_nh (i := 1) rfl (by first | exact Or.inl rfl | exact Or.inr (Or.inl rfl) | exact Or.inr (Or.inr rfl)) rfl rfl) (lasts_nh 1) da_nil rfl) rfl (G _ (by decide)) rfl) rfl rfl (dss_cons (ds_set (de_lst da_nil) rfl rfl (by decide) (.inl rfl)) (dss_cons (ds_for rfl (di_seq (de_nv (i := 2) rfl (by first | exact Or.inl rfl | exact Or.inr (Or.inl rfl) | exact Or.inr (Or.inr rfl)) rfl rfl)) rfl rfl (dss_cons (ds_expr (de_mut pa_list EV.slot_list_extend EV.ty_list_extend m_extend (i := 4) rfl (by first | exact Or.inl rfl | exact Or.inr (Or.inl rfl) | exact Or.inr (Or.inr rfl)) rfl rfl (da_cons (de_fz (de_comp (own := [("row", 6)]) rfl (di_seq (de_nv (i := 0) rfl (by first | exact Or.inl rfl | exact Or.inr (Or.inl rfl) | exact Or.inr (Or.inr rfl)) rfl rfl)) (by first | rfl | decide +kernel) rfl rfl dc_nil (de_fz (de_tup (da_star (de_nv (i := 5) rfl (by first | exact Or.inl rfl | exact Or.inr (Or.inl rfl) | exact Or.inr (Or.inr rfl)) rfl rfl) (lasts_nv 5) (da_cons (de_nv (i := 6) rfl (by first | exact Or.inl rfl | exact Or.inr (Or.inl rfl) | exact Or.inr (Or.inr rfl)) rfl rfl) (lasts_nv 6) da_nil rfl)))) rfl)) (lasts_fz _) da_nil rfl) rfl rfl (by decide)) rfl) dss_nil) rfl) (dss_cons (ds_set (de_nv (i := 4) rfl (by first | exact Or.inl rfl | exact Or.inr (Or.inl rfl) | exact Or.inr (Or.inr rfl)) rfl rfl) rfl rfl (by decide) (.inl rfl)) dss_nil))) rfl) (dss_cons (ds_ret (de_nm (i := 2) rfl (by first | exact Or.inl rfl | exact Or.inr (Or.inl rfl) | exact Or.inr (Or.inr rfl)) rfl rfl)) dss_nil)))
/-! index_of -/
abbrev t_index_of : Stmt := top 18
theorem sc_index_of : FnScope ["k", "row", "index", "entry"] ["k", "row"] (defScope t_index_of) := ⟨rfl, rfl, rfl, by decide +kernel, rfl, by decide +kernel, by decide +kernel⟩
theorem d_index_of {T : Tx} {k : Nat}  : DSs T ["k", "row", "index", "entry"] (defScope t_index_of) true [0, 1] k (defBody t_index_of) (b_index_of) :=
  (dss_cons (ds_set de_int rfl rfl (by decide) (.inl rfl)) (dss_cons (ds_for rfl (di_seq (de_nv (i := 1) rfl (by first | exact Or.inl rfl | exact Or.inr (Or.inl rfl) | exact Or.inr (Or.inr rfl)) rfl rfl)) rfl rfl (dss_cons (ds_set (de_op o_add (de_fz (de_op o_mul (de_nh (i := 2) rfl (by first | exact Or.inl rfl | exact Or.inr (Or.inl rfl) | exact Or.inr (Or.inr rfl)) rfl rfl) (de_nh (i := 0) rfl (by first | exact Or.inl rfl | exact Or.inr (Or.inl rfl) | exact Or.inr (Or.inr rfl)) rfl rfl) (lasts_nh 2) (lasts_nh 0))) (de_nh (i := 3) rfl (by first | exact Or.inl rfl | exact Or.inr (Or.inl rfl) | exact Or.inr (Or.inr rfl)) rfl rfl) (lasts_fz _) (lasts_nh 3)) rfl rfl (by decide) (.inl rfl)) dss_nil) rfl) (dss_cons (ds_ret (de_nm (i := 2) rfl (by first | exact Or.inl rfl | exact Or.inr (Or.inl rfl) | exact Or.inr (Or.inr rfl)) rfl rfl)) dss_nil)))
/-! made_of -/
abbrev t_made_of : Stmt := top 27
theorem sc_made_of : FnScope ["operation", "rows", "k", "_", "table", "column"] ["operation", "rows"] (defScope t_made_of) := ⟨rfl, rfl, rfl, by decide +kernel, rfl, by decide +kernel, by decide +kernel⟩
theorem d_made_of {T : Tx} {k : Nat} (G : ∀ x ∈ (["tuple", "zip"] : List Str), T.mg x = none) (C_index_of : CallE T k "index_of" 2 cs_index_of) : DSs T ["operation", "rows", "k", "_", "table", "column"] (defScope t_made_of) true [0, 1] k (defBody t_made_of) (b_made_of) :=
  (dss_cons (ds_asg rfl (de_nv (i := 0) rfl (by first | exact Or.inl rfl | exact Or.inr (Or.inl rfl) | exact Or.inr (Or.inr rfl)) rfl rfl) rfl rfl rfl) (dss_cons (ds_ret (de_callTy c_tuple (da_cons (de_fz (de_comp (own := [("column", 5)]) rfl (di_zipS (de_nh (i := 1) rfl (by first | exact Or.inl rfl | exact Or.inr (Or.inl rfl) | exact Or.inr (Or.inr rfl)) rfl rfl) (lasts_nh 1) rfl (G _ (by decide))) (by first | rfl | decide +kernel) rfl rfl dc_nil (de_fz (de_ix o_ix (de_nh (i := 4) rfl (by first | exact Or.inl rfl | exact Or.inr (Or.inl rfl) | exact Or.inr (Or.inr rfl)) rfl rfl) (de_fz (de_call C_index_of (da_cons (de_nv (i := 2) rfl (by first | exact Or.inl rfl | exact Or.inr (Or.inl rfl) | exact Or.inr (Or.inr rfl)) rfl rfl) (lasts_nv 2) (da_cons (de_nv (i := 5) rfl (by first | exact Or.inl rfl | exact Or.inr (Or.inl rfl) | exact Or.inr (Or.inr rfl)) rfl rfl) (lasts_nv 5) da_nil rfl) rfl) (fun _ _ _ h => semArgs_len1 rfl h) rfl rfl rfl)) (lasts_nh 4) (lasts_fz _) rfl)) rfl)) (lasts_fz _) da_nil rfl) rfl (G _ (by decide)) (by first | rfl | decide +kernel) (by decide) rfl rfl)) dss_nil))
/-! first_broken -/
abbrev t_first_broken : Stmt := top 30
theorem sc_first_broken : FnScope ["operation", "relation", "rows", "known", "some", "row"] ["operation", "relation"] (defScope t_first_broken) := ⟨rfl, rfl, rfl, by decide +kernel, rfl, by decide +kernel, by decide +kernel⟩
theorem d_first_broken {T : Tx} {k : Nat} (G : ∀ x ∈ (["len"] : List Str), T.mg x = none) (h_MOST_LOOKS : ∃ u v, T.mg "MOST_LOOKS" = some u ∧ RelV v u ∧ Rp T.K (fun _ => none) v (.int 300000)) (R_TooLarge : ErrE T "TooLarge") (C_power_of : CallE T k "power_of" 2 cs_power_of) (C_choices : CallE T k "choices" 2 cs_choices) (C_made_of : CallE T k "made_of" 2 cs_made_of) : DSs T ["operation", "relation", "rows", "known", "some", "row"] (defScope t_first_broken) true [0, 1] k (defBody t_first_broken) (b_first_broken) :=
  (dss_cons (ds_set (de_ix o_ix (de_nh (i := 1) rfl (by first | exact Or.inl rfl | exact Or.inr (Or.inl rfl) | exact Or.inr (Or.inr rfl)) rfl rfl) de_int (lasts_nh 1) (lasts_C _) rfl) rfl rfl (by decide) (.inl rfl)) (dss_cons (ds_if (dt_cmp o_gt (de_fz (de_call C_power_of (da_cons (de_fz (de_callB c_len (da_cons (de_nh (i := 2) rfl (by first | exact Or.inl rfl | exact Or.inr (Or.inl rfl) | exact Or.inr (Or.inr rfl)) rfl rfl) (lasts_nh 2) da_nil rfl) rfl (G _ (by decide)) (by first | rfl | decide +kernel) (by decide) rfl rfl)) (lasts_fz _) (da_cons (de_fz (de_ix o_ix (de_nh (i := 0) rfl (by first | exact Or.inl rfl | exact Or.inr (Or.inl rfl) | exact Or.inr (Or.inr rfl)) rfl rfl) de_int (lasts_nh 0) (lasts_C _) rfl)) (lasts_fz _) da_nil rfl) rfl) (fun _ _ _ h => semArgs_len1 rfl h) rfl rfl rfl)) (de_glob rfl h_MOST_LOOKS rfl) (lasts_fz _) (lasts_C _) rfl) (dss_cons (ds_raise R_TooLarge rfl rfl rfl) dss_nil) dss_nil) (dss_cons (ds_setDc (own := [("row", 5)]) rfl (di_seq (de_nv (i := 2) rfl (by first | exact Or.inl rfl | exact Or.inr (Or.inl rfl) | exact Or.inr (Or.inr rfl)) rfl rfl)) (by first | rfl | decide +kernel) rfl rfl dc_nil (de_nv (i := 5) rfl (by first | exact Or.inl rfl | exact Or.inr (Or.inl rfl) | exact Or.inr (Or.inr rfl)) rfl rfl) de_bl rfl rfl (by decide) rfl) (dss_cons (ds_for rfl (di_seq (de_fz (de_call C_choices (da_cons (de_nv (i := 2) rfl (by first | exact Or.inl rfl | exact Or.inr (Or.inl rfl) | exact Or.inr (Or.inr rfl)) rfl rfl) (lasts_nv 2) (da_cons (de_fz (de_ix o_ix (de_nh (i := 0) rfl (by first | exact Or.inl rfl | exact Or.inr (Or.inl rfl) | exact Or.inr (Or.inr rfl)) rfl rfl) de_int (lasts_nh 0) (lasts_C _) rfl)) (lasts_fz _) da_nil rfl) rfl) (fun _ _ _ h => semArgs_len1 rfl h) rfl rfl rfl))) rfl rfl (dss_cons (ds_if (dt_cmp o_notin (de_fz (de_call C_made_of (da_cons (de_nv (i := 0) rfl (by first | exact Or.inl rfl | exact Or.inr (Or.inl rfl) | exact Or.inr (Or.inr rfl)) rfl rfl) (lasts_nv 0) (da_cons (de_nv (i := 4) rfl (by first | exact Or.inl rfl | exact Or.inr (Or.inl rfl) | exact Or.inr (Or.inr rfl)) rfl rfl) (lasts_nv 4) da_nil rfl) rfl) (fun _ _ _ h => semArgs_len1 rfl h) rfl rfl rfl)) (de_nh (i := 3) rfl (by first | exact Or.inl rfl | exact Or.inr (Or.inl rfl) | exact Or.inr (Or.inr rfl)) rfl rfl) (lasts_fz _) (lasts_nh 3) rfl) (dss_cons (ds_ret (de_nm (i := 4) rfl (by first | exact Or.inl rfl | exact Or.inr (Or.inl rfl) | exact Or.inr (Or.inr rfl)) rfl rfl)) dss_nil) dss_nil) dss_nil) rfl) (dss_cons (ds_ret de_non) dss_nil)))))
/-! broken_rows -/
abbrev t_broken_rows : Stmt := top 32
theorem sc_broken_rows : FnScope ["operation", "relation"] ["operation", "relation"] (defScope t_broken_rows) := ⟨rfl, rfl, rfl, by decide +kernel, rfl, by decide +kernel, by decide +kernel⟩
theorem d_broken_rows {T : Tx} {k : Nat} (C_check_asked : CallE T k "check_asked" 2 cs_check_asked) (C_first_broken : CallE T k "first_broken" 2 cs_first_broken) : DSs T ["operation", "relation"] (defScope t_broken_rows) true [0, 1] k (defBody t_broken_rows) (b_broken_rows) :=
  (dss_cons (ds_expr (de_call C_check_asked (da_cons (de_nv (i := 0) rfl (by first | exact Or.inl rfl | exact Or.inr (Or.inl rfl) | exact Or.inr (Or.inr rfl)) rfl rfl) (lasts_nv 0) (da_cons (de_nv (i := 1) rfl (by first | exact Or.inl rfl | exact Or.inr (Or.inl rfl) | exact Or.inr (Or.inr rfl)) rfl rfl) (lasts_nv 1) da_nil rfl) rfl) (fun _ _ _ h => semArgs_len1 rfl h) rfl rfl rfl) rfl) (dss_cons (ds_ret (de_call C_first_broken (da_cons (de_nv (i := 0) rfl (by first | exact Or.inl rfl | exact Or.inr (Or.inl rfl) | exact Or.inr (Or.inr rfl)) rfl rfl) (lasts_nv 0) (da_cons (de_nv (i := 1) rfl (by first | exact Or.inl rfl | exact Or.inr (Or.inl rfl) | exact Or.inr (Or.inr rfl)) rfl rfl) (lasts_nv 1) da_nil rfl) rfl) (fun _ _ _ h => semArgs_len1 rfl h) rfl rfl rfl)) dss_nil))
/-! keeps -/
abbrev t_keeps : Stmt := top 33
theorem sc_keeps : FnScope ["operation", "relation"] ["operation", "relation"] (defScope t_keeps) := ⟨rfl, rfl, rfl, by decide +kernel, rfl, by decide +kernel, by decide +kernel⟩
theorem d_keeps {T : Tx} {k : Nat} (C_broken_rows : CallE T k "broken_rows" 2 cs_broken_rows) : DSs T ["operation", "relation"] (defScope t_keeps) true [0, 1] k (defBody t_keeps) (b_keeps) :=
  (dss_cons (ds_ret (de_cmp o_is (de_fz (de_call C_broken_rows (da_cons (de_nv (i := 0) rfl (by first | exact Or.inl rfl | exact Or.inr (Or.inl rfl) | exact Or.inr (Or.inr rfl)) rfl rfl) (lasts_nv 0) (da_cons (de_nv (i := 1) rfl (by first | exact Or.inl rfl | exact Or.inr (Or.inl rfl) | exact Or.inr (Or.inr rfl)) rfl rfl) (lasts_nv 1) da_nil rfl) rfl) (fun _ _ _ h => semArgs_len1 rfl h) rfl rfl rfl)) de_non (lasts_fz _) (lasts_C _) rfl)) dss_nil)
/-! _law_pick -/
abbrev t__law_pick : Stmt := top 40
theorem sc__law_pick : FnScope ["draws", "some"] ["draws", "some"] (defScope t__law_pick) := ⟨rfl, rfl, rfl, by decide +kernel, rfl, by decide +kernel, by decide +kernel⟩
theorem d__law_pick {T : Tx} {k : Nat} (G : ∀ x ∈ (["int", "len"] : List Str), T.mg x = none) (C__law_next : CallE T k "_law_next" 1 cs__law_next) : DSs T ["draws", "some"] (defScope t__law_pick) true [0, 1] k (defBody t__law_pick) (b__law_pick) :=
  (dss_cons (ds_ret (de_ix o_ix (de_nh (i := 1) rfl (by first | exact Or.inl rfl | exact Or.inr (Or.inl rfl) | exact Or.inr (Or.inr rfl)) rfl rfl) (de_fz (de_op o_mod (de_fz (de_callTy c_int (da_cons (de_fz (de_call C__law_next (da_cons (de_nh (i := 0) rfl (by first | exact Or.inl rfl | exact Or.inr (Or.inl rfl) | exact Or.inr (Or.inr rfl)) rfl rfl) (lasts_nh 0) da_nil rfl) (fun _ _ _ h => semArgs_len1 rfl h) rfl rfl rfl)) (lasts_fz _) da_nil rfl) rfl (G _ (by decide)) (by first | rfl | decide +kernel) (by decide) rfl rfl)) (de_fz (de_callB c_len (da_cons (de_nh (i := 1) rfl (by first | exact Or.inl rfl | exact Or.inr (Or.inl rfl) | exact Or.inr (Or.inr rfl)) rfl rfl) (lasts_nh 1) da_nil rfl) rfl (G _ (by decide)) (by first | rfl | decide +kernel) (by decide) rfl rfl)) (lasts_fz _) (lasts_fz _))) (lasts_nh 1) (lasts_fz _) rfl)) dss_nil)
/-! _law_tuples -/
abbrev t__law_tuples : Stmt := top 42
theorem sc__law_tuples : FnScope ["k", "n", "found", "at", "longer", "row", "entry"] ["k", "n"] (defScope t__law_tuples) := ⟨rfl, rfl, rfl, by decide +kernel, rfl, by decide +kernel, by decide +kernel⟩
theorem d__law_tuples {T : Tx} {k : Nat} (G : ∀ x ∈ (["range"] : List Str), T.mg x = none) : DSs T ["k", "n", "found", "at", "longer", "row", "entry"] (defScope t__law_tuples) true [0, 1] k (defBody t__law_tuples) (b__law_tuples) :=
  (dss_cons (ds_set (de_lst (da_cons (de_fz (de_tup da_nil)) (lasts_fz _) da_nil rfl)) rfl rfl (by decide) (.inl rfl)) (dss_cons (ds_for rfl (di_range1 (da_cons (de_nh (i := 1) rfl (by first | exact Or.inl rfl | exact Or.inr (Or.inl rfl) | exact Or.inr (Or.inr rfl)) rfl rfl) (lasts_nh 1) da_nil rfl) rfl (G _ (by decide)) rfl) rfl rfl (dss_cons (ds_set (de_lst da_nil) rfl rfl (by decide) (.inl rfl)) (dss_cons (ds_for rfl (di_seq (de_nv (i := 2) rfl (by first | exact Or.inl rfl | exact Or.inr (Or.inl rfl) | exact Or.inr (Or.inr rfl)) rfl rfl)) rfl rfl (dss_cons (ds_expr (de_mut pa_list EV.slot_list_extend EV.ty_list_extend m_extend (i := 4) rfl (by first | exact Or.inl rfl | exact Or.inr (Or.inl rfl) | exact Or.inr (Or.inr rfl)) rfl rfl (da_cons (de_fz (de_comp (own := [("entry", 6)]) rfl (di_range1 (da_cons (de_nh (i := 0) rfl (by first | exact Or.inl rfl | exact Or.inr (Or.inl rfl) | exact Or.inr (Or.inr rfl)) rfl rfl) (lasts_nh 0) da_nil rfl) rfl (G _ (by decide)) rfl) (by first | rfl | decide +kernel) rfl rfl dc_nil (de_fz (de_op o_add (de_nh (i := 5) rfl (by first | exact Or.inl rfl | exact Or.inr (Or.inl rfl) | exact Or.inr (Or.inr rfl)) rfl rfl) (de_fz (de_tup (da_cons (de_nv (i := 6) rfl (by first | exact Or.inl rfl | exact Or.inr (Or.inl rfl) | exact Or.inr (Or.inr rfl)) rfl rfl) (lasts_nv 6) da_nil rfl))) (lasts_nh 5) (lasts_fz _))) rfl)) (lasts_fz _) da_nil rfl) rfl rfl (by decide)) rfl) dss_nil) rfl) (dss_cons (ds_set (de_nv (i := 4) rfl (by first | exact Or.inl rfl | exact Or.inr (Or.inl rfl) | exact Or.inr (Or.inr rfl)) rfl rfl) rfl rfl (by decide) (.inl rfl)) dss_nil))) rfl) (dss_cons (ds_ret (de_nm (i := 2) rfl (by first | exact Or.inl rfl | exact Or.inr (Or.inl rfl) | exact Or.inr (Or.inr rfl)) rfl rfl)) dss_nil)))
/-! _law_known -/
abbrev t__law_known : Stmt := top 46
theorem sc__law_known : FnScope ["draws", "k", "tables", "table", "kind", "row"] ["draws", "k"] (defScope t__law_known) := ⟨rfl, rfl, rfl, by decide +kernel, rfl, by decide +kernel, by decide +kernel⟩
theorem d__law_known {T : Tx} {k : Nat} (G : ∀ x ∈ (["int", "len", "max", "min", "sum", "tuple"] : List Str), T.mg x = none) (C__law_pick : CallE T k "_law_pick" 2 cs__law_pick) (C__law_next : CallE T k "_law_next" 1 cs__law_next) (C__law_tuples : CallE T k "_law_tuples" 2 cs__law_tuples) : DSs T ["draws", "k", "tables", "table", "kind", "row"] (defScope t__law_known) true [0, 1] k (defBody t__law_known) (b__law_known) :=
  (dss_cons (ds_if (dt_cmp o_eq (de_nh (i := 1) rfl (by first | exact Or.inl rfl | exact Or.inr (Or.inl rfl) | exact Or.inr (Or.inr rfl)) rfl rfl) de_int (lasts_nh 1) (lasts_C _) rfl) (dss_cons (ds_set (de_lst (da_cons (de_fz (de_tup (da_cons de_int (lasts_C _) (da_cons de_int (lasts_C _) (da_cons de_int (lasts_C _) (da_cons de_int (lasts_C _) da_nil rfl) rfl) rfl) rfl))) (lasts_fz _) (da_cons (de_fz (de_tup (da_cons de_int (lasts_C _) (da_cons de_int (lasts_C _) (da_cons de_int (lasts_C _) (da_cons de_int (lasts_C _) da_nil rfl) rfl) rfl) rfl))) (lasts_fz _) (da_cons (de_fz (de_tup (da_cons de_int (lasts_C _) (da_cons de_int (lasts_C _) (da_cons de_int (lasts_C _) (da_cons de_int (lasts_C _) da_nil rfl) rfl) rfl) rfl))) (lasts_fz _) (da_cons (de_fz (de_tup (da_cons de_int (lasts_C _) (da_cons de_int (lasts_C _) (da_cons de_int (lasts_C _) (da_cons de_int (lasts_C _) da_nil rfl) rfl) rfl) rfl))) (lasts_fz _) (da_cons (de_fz (de_tup (da_cons de_int (lasts_C _) (da_cons de_int (lasts_C _) da_nil rfl) rfl))) (lasts_fz _) (da_cons (de_fz (de_tup (da_cons de_int (lasts_C _) (da_cons de_int (lasts_C _) (da_cons de_int (lasts_C _) (da_cons de_int (lasts_C _) (da_cons de_int (lasts_C _) (da_cons de_int (lasts_C _) (da_cons de_int (lasts_C _) (da_cons de_int (lasts_C _) da_nil rfl) rfl) rfl) rfl) rfl) rfl) rfl) rfl))) (lasts_fz _) (da_cons (de_fz (de_tup (da_cons de_int (lasts_C _) (da_cons de_int (lasts_C _) (da_cons de_int (lasts_C _) (da_cons de_int (lasts_C _) (da_cons de_int (lasts_C _) (da_cons de_int (lasts_C _) (da_cons de_int (lasts_C _) (da_cons de_int (lasts_C _) da_nil rfl) rfl) rfl) rfl) rfl) rfl) rfl) rfl))) (lasts_fz _) (da_cons (de_fz (de_tup (da_cons de_int (lasts_C _) (da_cons de_int (lasts_C _) (da_cons de_int (lasts_C _) (da_cons de_int (lasts_C _) da_nil rfl) rfl) rfl) rfl))) (lasts_fz _) (da_cons (de_fz (de_tup (da_cons de_int (lasts_C _) (da_cons de_int (lasts_C _) da_nil rfl) rfl))) (lasts_fz _) (da_cons (de_fz (de_tup (da_cons de_int (lasts_C _) (da_cons de_int (lasts_C _) da_nil rfl) rfl))) (lasts_fz _) (da_cons (de_fz (de_tup (da_cons de_int (lasts_C _) (da_cons de_int (lasts_C _) (da_cons de_int (lasts_C _) (da_cons de_int (lasts_C _) da_nil rfl) rfl) rfl) rfl))) (lasts_fz _) da_nil rfl) rfl) rfl) rfl) rfl) rfl) rfl) rfl) rfl) rfl) rfl)) rfl rfl (by decide) (.inl rfl)) (dss_cons (ds_set (de_call C__law_pick (da_cons (de_nh (i := 0) rfl (by first | exact Or.inl rfl | exact Or.inr (Or.inl rfl) | exact Or.inr (Or.inr rfl)) rfl rfl) (lasts_nh 0) (da_cons (de_nv (i := 2) rfl (by first | exact Or.inl rfl | exact Or.inr (Or.inl rfl) | exact Or.inr (Or.inr rfl)) rfl rfl) (lasts_nv 2) da_nil rfl) rfl) (fun _ _ _ h => semArgs_len1 rfl h) rfl rfl rfl) rfl rfl (by decide) (.inl rfl)) (dss_cons (ds_ret (de_tup (da_cons de_int (lasts_C _) (da_cons (de_fz (de_op o_add (de_fz (de_op o_add de_int (de_fz (de_callTy c_int (da_cons (de_fz (de_cmp o_gt (de_fz (de_callB c_len (da_cons (de_nh (i := 3) rfl (by first | exact Or.inl rfl | exact Or.inr (Or.inl rfl) | exact Or.inr (Or.inr rfl)) rfl rfl) (lasts_nh 3) da_nil rfl) rfl (G _ (by decide)) (by first | rfl | decide +kernel) (by decide) rfl rfl)) de_int (lasts_fz _) (lasts_C _) rfl)) (lasts_fz _) da_nil rfl) rfl (G _ (by decide)) (by first | rfl | decide +kernel) (by decide) rfl rfl)) (lasts_C _) (lasts_fz _))) (de_fz (de_callTy c_int (da_cons (de_fz (de_cmp o_gt (de_fz (de_callB c_len (da_cons (de_nh (i := 3) rfl (by first | exact Or.inl rfl | exact Or.inr (Or.inl rfl) | exact Or.inr (Or.inr rfl)) rfl rfl) (lasts_nh 3) da_nil rfl) rfl (G _ (by decide)) (by first | rfl | decide +kernel) (by decide) rfl rfl)) de_int (lasts_fz _) (lasts_C _) rfl)) (lasts_fz _) da_nil rfl) rfl (G _ (by decide)) (by first | rfl | decide +kernel) (by decide) rfl rfl)) (lasts_fz _) (lasts_fz _))) (lasts_fz _) (da_cons (de_nv (i := 3) rfl (by first | exact Or.inl rfl | exact Or.inr (Or.inl rfl) | exact Or.inr (Or.inr rfl)) rfl rfl) (lasts_nv 3) da_nil rfl) rfl) rfl))) dss_nil))) dss_nil) (dss_cons (ds_set (de_op o_mod (de_fz (de_callTy c_int (da_cons (de_fz (de_call C__law_next (da_cons (de_nh (i := 0) rfl (by first | exact Or.inl rfl | exact Or.inr (Or.inl rfl) | exact Or.inr (Or.inr rfl)) rfl rfl) (lasts_nh 0) da_nil rfl) (fun _ _ _ h => semArgs_len1 rfl h) rfl rfl rfl)) (lasts_fz _) da_nil rfl) rfl (G _ (by decide)) (by first | rfl | decide +kernel) (by decide) rfl rfl)) de_int (lasts_fz _) (lasts_C _)) rfl rfl (by decide) (.inl rfl)) (dss_cons (ds_if (dt_cmp o_lt (de_nh (i := 4) rfl (by first | exact Or.inl rfl | exact Or.inr (Or.inl rfl) | exact Or.inr (Or.inr rfl)) rfl rfl) de_int (lasts_nh 4) (lasts_C _) rfl) (dss_cons (ds_ret (de_tup (da_cons de_int (lasts_C _) (da_cons de_int (lasts_C _) (da_cons (de_fz (de_callTy c_tuple (da_cons (de_fz (de_comp (own := [("row", 5)]) rfl (di_seq (de_fz (de_call C__law_tuples (da_cons de_int (lasts_C _) (da_cons de_int (lasts_C _) da_nil rfl) rfl) (fun _ _ _ h => semArgs_len1 rfl h) rfl rfl rfl))) (by first | rfl | decide +kernel) rfl rfl dc_nil (de_fz (de_ix o_ix (de_fz (de_lst (da_cons (de_fz (de_callB c_max (da_cons (de_nh (i := 5) rfl (by first | exact Or.inl rfl | exact Or.inr (Or.inl rfl) | exact Or.inr (Or.inr rfl)) rfl rfl) (lasts_nh 5) da_nil rfl) rfl (G _ (by decide)) (by first | rfl | decide +kernel) (by decide) rfl rfl)) (lasts_fz _) (da_cons (de_fz (de_callB c_min (da_cons (de_nh (i := 5) rfl (by first | exact Or.inl rfl | exact Or.inr (Or.inl rfl) | exact Or.inr (Or.inr rfl)) rfl rfl) (lasts_nh 5) da_nil rfl) rfl (G _ (by decide)) (by first | rfl | decide +kernel) (by decide) rfl rfl)) (lasts_fz _) (da_cons (de_fz (de_op o_mod (de_fz (de_callTy c_int (da_cons (de_fz (de_callB c_sum (da_cons (de_nh (i := 5) rfl (by first | exact Or.inl rfl | exact Or.inr (Or.inl rfl) | exact Or.inr (Or.inr rfl)) rfl rfl) (lasts_nh 5) da_nil rfl) rfl (G _ (by decide)) (by first | rfl | decide +kernel) (by decide) rfl rfl)) (lasts_fz _) da_nil rfl) rfl (G _ (by decide)) (by first | rfl | decide +kernel) (by decide) rfl rfl)) de_int (lasts_fz _) (lasts_C _))) (lasts_fz _) (da_cons (de_fz (de_op o_mod (de_fz (de_callTy c_int (da_cons (de_fz (de_op o_mul de_int (de_fz (de_callB c_sum (da_cons (de_nh (i := 5) rfl (by first | exact Or.inl rfl | exact Or.inr (Or.inl rfl) | exact Or.inr (Or.inr rfl)) rfl rfl) (lasts_nh 5) da_nil rfl) rfl (G _ (by decide)) (by first | rfl | decide +kernel) (by decide) rfl rfl)) (lasts_C _) (lasts_fz _))) (lasts_fz _) da_nil rfl) rfl (G _ (by decide)) (by first | rfl | decide +kernel) (by decide) rfl rfl)) de_int (lasts_fz _) (lasts_C _))) (lasts_fz _) da_nil rfl) rfl) rfl) rfl))) (de_nh (i := 4) rfl (by first | exact Or.inl rfl | exact Or.inr (Or.inl rfl) | exact Or.inr (Or.inr rfl)) rfl rfl) (lasts_fz _) (lasts_nh 4) rfl)) rfl)) (lasts_fz _) da_nil rfl) rfl (G _ (by decide)) (by first | rfl | decide +kernel) (by decide) rfl rfl)) (lasts_fz _) da_nil rfl) rfl) rfl))) dss_nil) dss_nil) (dss_cons (ds_ret (de_tup (da_cons de_int (lasts_C _) (da_cons de_int (lasts_C _) (da_cons (de_fz (de_ix o_ix (de_fz (de_lst (da_cons (de_fz (de_tup (da_cons de_int (lasts_C _) (da_cons de_int (lasts_C _) (da_cons de_int (lasts_C _) da_nil rfl) rfl) rfl))) (lasts_fz _) (da_cons (de_fz (de_tup (da_cons de_int (lasts_C _) (da_cons de_int (lasts_C _) (da_cons de_int (lasts_C _) da_nil rfl) rfl) rfl))) (lasts_fz _) da_nil rfl) rfl))) (de_fz (de_op o_sub (de_nh (i := 4) rfl (by first | exact Or.inl rfl | exact Or.inr (Or.inl rfl) | exact Or.inr (Or.inr rfl)) rfl rfl) de_int (lasts_nh 4) (lasts_C _))) (lasts_fz _) (lasts_fz _) rfl)) (lasts_fz _) da_nil rfl) rfl) rfl))) dss_nil))))
/-! _law_any -/
abbrev t__law_any : Stmt := top 45
theorem sc__law_any : FnScope ["draws", "k", "n", "row"] ["draws", "k", "n"] (defScope t__law_any) := ⟨rfl, rfl, rfl, by decide +kernel, rfl, by decide +kernel, by decide +kernel⟩
theorem d__law_any {T : Tx} {k : Nat} (G : ∀ x ∈ (["int", "tuple"] : List Str), T.mg x = none) (C__law_tuples : CallE T k "_law_tuples" 2 cs__law_tuples) (C__law_next : CallE T k "_law_next" 1 cs__law_next) : DSs T ["draws", "k", "n", "row"] (defScope t__law_any) true [0, 1, 2] k (defBody t__law_any) (b__law_any) :=
  (dss_cons (ds_ret (de_tup (da_cons (de_nv (i := 1) rfl (by first | exact Or.inl rfl | exact Or.inr (Or.inl rfl) | exact Or.inr (Or.inr rfl)) rfl rfl) (lasts_nv 1) (da_cons (de_nv (i := 2) rfl (by first | exact Or.inl rfl | exact Or.inr (Or.inl rfl) | exact Or.inr (Or.inr rfl)) rfl rfl) (lasts_nv 2) (da_cons (de_fz (de_callTy c_tuple (da_cons (de_fz (de_comp (own := [("row", 3)]) rfl (di_seq (de_fz (de_call C__law_tuples (da_cons (de_nv (i := 1) rfl (by first | exact Or.inl rfl | exact Or.inr (Or.inl rfl) | exact Or.inr (Or.inr rfl)) rfl rfl) (lasts_nv 1) (da_cons (de_nv (i := 2) rfl (by first | exact Or.inl rfl | exact Or.inr (Or.inl rfl) | exact Or.inr (Or.inr rfl)) rfl rfl) (lasts_nv 2) da_nil rfl) rfl) (fun _ _ _ h => semArgs_len1 rfl h) rfl rfl rfl))) (by first | rfl | decide +kernel) rfl rfl dc_nil (de_fz (de_op o_mod (de_fz (de_callTy c_int (da_cons (de_fz (de_call C__law_next (da_cons (de_nh (i := 0) rfl (by first | exact Or.inl rfl | exact Or.inr (Or.inl rfl) | exact Or.inr (Or.inr rfl)) rfl rfl) (lasts_nh 0) da_nil rfl) (fun _ _ _ h => semArgs_len1 rfl h) rfl rfl rfl)) (lasts_fz _) da_nil rfl) rfl (G _ (by decide)) (by first | rfl | decide +kernel) (by decide) rfl rfl)) (de_nh (i := 1) rfl (by first | exact Or.inl rfl | exact Or.inr (Or.inl rfl) | exact Or.inr (Or.inr rfl)) rfl rfl) (lasts_fz _) (lasts_nh 1))) rfl)) (lasts_fz _) da_nil rfl) rfl (G _ (by decide)) (by first | rfl | decide +kernel) (by decide) rfl rfl)) (lasts_fz _) da_nil rfl) rfl) rfl))) dss_nil)
/-! _law_operation -/
abbrev t__law_operation : Stmt := top 47
theorem sc__law_operation : FnScope ["draws", "k"] ["draws", "k"] (defScope t__law_operation) := ⟨rfl, rfl, rfl, by decide +kernel, rfl, by decide +kernel, by decide +kernel⟩
theorem d__law_operation {T : Tx} {k : Nat} (G : ∀ x ∈ (["int"] : List Str), T.mg x = none) (C__law_next : CallE T k "_law_next" 1 cs__law_next) (C__law_known : CallE T k "_law_known" 2 cs__law_known) (C__law_any : CallE T k "_law_any" 3 cs__law_any) (C__law_pick : CallE T k "_law_pick" 2 cs__law_pick) : DSs T ["draws", "k"] (defScope t__law_operation) true [0, 1] k (defBody t__law_operation) (b__law_operation) :=
  (dss_cons (ds_if (dt_cmp o_gt (de_fz (de_op o_mod (de_fz (de_callTy c_int (da_cons (de_fz (de_call C__law_next (da_cons (de_nh (i := 0) rfl (by first | exact Or.inl rfl | exact Or.inr (Or.inl rfl) | exact Or.inr (Or.inr rfl)) rfl rfl) (lasts_nh 0) da_nil rfl) (fun _ _ _ h => semArgs_len1 rfl h) rfl rfl rfl)) (lasts_fz _) da_nil rfl) rfl (G _ (by decide)) (by first | rfl | decide +kernel) (by decide) rfl rfl)) de_int (lasts_fz _) (lasts_C _))) de_int (lasts_fz _) (lasts_C _) rfl) (dss_cons (ds_ret (de_call C__law_known (da_cons (de_nh (i := 0) rfl (by first | exact Or.inl rfl | exact Or.inr (Or.inl rfl) | exact Or.inr (Or.inr rfl)) rfl rfl) (lasts_nh 0) (da_cons (de_nv (i := 1) rfl (by first | exact Or.inl rfl | exact Or.inr (Or.inl rfl) | exact Or.inr (Or.inr rfl)) rfl rfl) (lasts_nv 1) da_nil rfl) rfl) (fun _ _ _ h => semArgs_len1 rfl h) rfl rfl rfl)) dss_nil) dss_nil) (dss_cons (ds_ret (de_call C__law_any (da_cons (de_nh (i := 0) rfl (by first | exact Or.inl rfl | exact Or.inr (Or.inl rfl) | exact Or.inr (Or.inr rfl)) rfl rfl) (lasts_nh 0) (da_cons (de_nv (i := 1) rfl (by first | exact Or.inl rfl | exact Or.inr (Or.inl rfl) | exact Or.inr (Or.inr rfl)) rfl rfl) (lasts_nv 1) (da_cons (de_fz (de_call C__law_pick (da_cons (de_nh (i := 0) rfl (by first | exact Or.inl rfl | exact Or.inr (Or.inl rfl) | exact Or.inr (Or.inr rfl)) rfl rfl) (lasts_nh 0) (da_cons (de_fz (de_ix o_ix (de_fz (de_lst (da_cons (de_fz (de_lst (da_cons de_int (lasts_C _) (da_cons de_int (lasts_C _) (da_cons de_int (lasts_C _) (da_cons de_int (lasts_C _) da_nil rfl) rfl) rfl) rfl))) (lasts_fz _) (da_cons (de_fz (de_lst (da_cons de_int (lasts_C _) (da_cons de_int (lasts_C _) (da_cons de_int (lasts_C _) da_nil rfl) rfl) rfl))) (lasts_fz _) da_nil rfl) rfl))) (de_fz (de_op o_sub (de_nh (i := 1) rfl (by first | exact Or.inl rfl | exact Or.inr (Or.inl rfl) | exact Or.inr (Or.inr rfl)) rfl rfl) de_int (lasts_nh 1) (lasts_C _))) (lasts_fz _) (lasts_fz _) rfl)) (lasts_fz _) da_nil rfl) rfl) (fun _ _ _ h => semArgs_len1 rfl h) rfl rfl rfl)) (lasts_fz _) da_nil rfl) rfl) rfl) (fun _ _ _ h => semArgs_len1 rfl h) rfl rfl rfl)) dss_nil))
/-! _law_choices -/
abbrev t__law_choices : Stmt := top 50
theorem sc__law_choices : FnScope ["rows", "n", "found", "at", "longer", "some", "row"] ["rows", "n"] (defScope t__law_choices) := ⟨rfl, rfl, rfl, by decide +kernel, rfl, by decide +kernel, by decide +kernel⟩
theorem d__law_choices {T : Tx} {k : Nat} (G : ∀ x ∈ (["range"] : List Str), T.mg x = none) : DSs T ["rows", "n", "found", "at", "longer", "some", "row"] (defScope t__law_choices) true [0, 1] k (defBody t__law_choices) (b__law_choices) :=
  (dss_cons (ds_set (de_lst (da_cons (de_fz (de_tup da_nil)) (lasts_fz _) da_nil rfl)) rfl rfl (by decide) (.inl rfl)) (dss_cons (ds_for rfl (di_range1 (da_cons (de_nh (i := 1) rfl (by first | exact Or.inl rfl | exact Or.inr (Or.inl rfl) | exact Or.inr (Or.inr rfl)) rfl rfl) (lasts_nh 1) da_nil rfl) rfl (G _ (by decide)) rfl) rfl rfl (dss_cons (ds_set (de_lst da_nil) rfl rfl (by decide) (.inl rfl)) (dss_cons (ds_for rfl (di_seq (de_nv (i := 2) rfl (by first | exact Or.inl rfl | exact Or.inr (Or.inl rfl) | exact Or.inr (Or.inr rfl)) rfl rfl)) rfl rfl (dss_cons (ds_expr (de_mut pa_list EV.slot_list_extend EV.ty_list_extend m_extend (i := 4) rfl (by first | exact Or.inl rfl | exact Or.inr (Or.inl rfl) | exact Or.inr (Or.inr rfl)) rfl rfl (da_cons (de_fz (de_comp (own := [("row", 6)]) rfl (di_seq (de_nv (i := 0) rfl (by first | exact Or.inl rfl | exact Or.inr (Or.inl rfl) | exact Or.inr (Or.inr rfl)) rfl rfl)) (by first | rfl | decide +kernel) rfl rfl dc_nil (de_fz (de_op o_add (de_nh (i := 5) rfl (by first | exact Or.inl rfl | exact Or.inr (Or.inl rfl) | exact Or.inr (Or.inr rfl)) rfl rfl) (de_fz (de_tup (da_cons (de_nv (i := 6) rfl (by first | exact Or.inl rfl | exact Or.inr (Or.inl rfl) | exact Or.inr (Or.inr rfl)) rfl rfl) (lasts_nv 6) da_nil rfl))) (lasts_nh 5) (lasts_fz _))) rfl)) (lasts_fz _) da_nil rfl) rfl rfl (by decide)) rfl) dss_nil) rfl) (dss_cons (ds_set (de_nv (i := 4) rfl (by first | exact Or.inl rfl | exact Or.inr (Or.inl rfl) | exact Or.inr (Or.inr rfl)) rfl rfl) rfl rfl (by decide) (.inl rfl)) dss_nil))) rfl) (dss_cons (ds_ret (de_nm (i := 2) rfl (by first | exact Or.inl rfl | exact Or.inr (Or.inl rfl) | exact Or.inr (Or.inr rfl)) rfl rfl)) dss_nil)))
/-! _law_index -/
abbrev t__law_index : Stmt := top 43
theorem sc__law_index : FnScope ["k", "row", "index", "entry"] ["k", "row"] (defScope t__law_index) := ⟨rfl, rfl, rfl, by decide +kernel, rfl, by decide +kernel, by decide +kernel⟩
theorem d__law_index {T : Tx} {k : Nat}  : DSs T ["k", "row", "index", "entry"] (defScope t__law_index) true [0, 1] k (defBody t__law_index) (b__law_index) :=
  (dss_cons (ds_set de_int rfl rfl (by decide) (.inl rfl)) (dss_cons (ds_for rfl (di_seq (de_nv (i := 1) rfl (by first | exact Or.inl rfl | exact Or.inr (Or.inl rfl) | exact Or.inr (Or.inr rfl)) rfl rfl)) rfl rfl (dss_cons (ds_set (de_op o_add (de_fz (de_op o_mul (de_nh (i := 2) rfl (by first | exact Or.inl rfl | exact Or.inr (Or.inl rfl) | exact Or.inr (Or.inr rfl)) rfl rfl) (de_nh (i := 0) rfl (by first | exact Or.inl rfl | exact Or.inr (Or.inl rfl) | exact Or.inr (Or.inr rfl)) rfl rfl) (lasts_nh 2) (lasts_nh 0))) (de_nh (i := 3) rfl (by first | exact Or.inl rfl | exact Or.inr (Or.inl rfl) | exact Or.inr (Or.inr rfl)) rfl rfl) (lasts_fz _) (lasts_nh 3)) rfl rfl (by decide) (.inl rfl)) dss_nil) rfl) (dss_cons (ds_ret (de_nm (i := 2) rfl (by first | exact Or.inl rfl | exact Or.inr (Or.inl rfl) | exact Or.inr (Or.inr rfl)) rfl rfl)) dss_nil)))
/-! _law_value -/
abbrev t__law_value : Stmt := top 44
theorem sc__law_value : FnScope ["operation", "row"] ["operation", "row"] (defScope t__law_value) := ⟨rfl, rfl, rfl, by decide +kernel, rfl, by decide +kernel, by decide +kernel⟩
theorem d__law_value {T : Tx} {k : Nat} (C__law_index : CallE T k "_law_index" 2 cs__law_index) : DSs T ["operation", "row"] (defScope t__law_value) true [0, 1] k (defBody t__law_value) (b__law_value) :=
  (dss_cons (ds_ret (de_ix o_ix (de_fz (de_ix o_ix (de_nh (i := 0) rfl (by first | exact Or.inl rfl | exact Or.inr (Or.inl rfl) | exact Or.inr (Or.inr rfl)) rfl rfl) de_int (lasts_nh 0) (lasts_C _) rfl)) (de_fz (de_call C__law_index (da_cons (de_fz (de_ix o_ix (de_nh (i := 0) rfl (by first | exact Or.inl rfl | exact Or.inr (Or.inl rfl) | exact Or.inr (Or.inr rfl)) rfl rfl) de_int (lasts_nh 0) (lasts_C _) rfl)) (lasts_fz _) (da_cons (de_nv (i := 1) rfl (by first | exact Or.inl rfl | exact Or.inr (Or.inl rfl) | exact Or.inr (Or.inr rfl)) rfl rfl) (lasts_nv 1) da_nil rfl) rfl) (fun _ _ _ h => semArgs_len1 rfl h) rfl rfl rfl)) (lasts_fz _) (lasts_fz _) rfl)) dss_nil)
/-! _law_made_of -/
abbrev t__law_made_of : Stmt := top 49
theorem sc__law_made_of : FnScope ["operation", "rows", "at", "row"] ["operation", "rows"] (defScope t__law_made_of) := ⟨rfl, rfl, rfl, by decide +kernel, rfl, by decide +kernel, by decide +kernel⟩
theorem d__law_made_of {T : Tx} {k : Nat} (G : ∀ x ∈ (["len", "range", "tuple"] : List Str), T.mg x = none) (C__law_value : CallE T k "_law_value" 2 cs__law_value) : DSs T ["operation", "rows", "at", "row"] (defScope t__law_made_of) true [0, 1] k (defBody t__law_made_of) (b__law_made_of) :=
  (dss_cons (ds_ret (de_callTy c_tuple (da_cons (de_fz (de_comp (own := [("at", 2)]) rfl (di_range1 (da_cons (de_fz (de_callB c_len (da_cons (de_fz (de_ix o_ix (de_nh (i := 1) rfl (by first | exact Or.inl rfl | exact Or.inr (Or.inl rfl) | exact Or.inr (Or.inr rfl)) rfl rfl) de_int (lasts_nh 1) (lasts_C _) rfl)) (lasts_fz _) da_nil rfl) rfl (G _ (by decide)) (by first | rfl | decide +kernel) (by decide) rfl rfl)) (lasts_fz _) da_nil rfl) rfl (G _ (by decide)) rfl) (by first | rfl | decide +kernel) rfl rfl dc_nil (de_fz (de_call C__law_value (da_cons (de_nv (i := 0) rfl (by first | exact Or.inl rfl | exact Or.inr (Or.inl rfl) | exact Or.inr (Or.inr rfl)) rfl rfl) (lasts_nv 0) (da_cons (de_fz (de_comp (own := [("row", 3)]) rfl (di_seq (de_nv (i := 1) rfl (by first | exact Or.inl rfl | exact Or.inr (Or.inl rfl) | exact Or.inr (Or.inr rfl)) rfl rfl)) (by first | rfl | decide +kernel) rfl rfl dc_nil (de_fz (de_ix o_ix (de_nh (i := 3) rfl (by first | exact Or.inl rfl | exact Or.inr (Or.inl rfl) | exact Or.inr (Or.inr rfl)) rfl rfl) (de_nh (i := 2) rfl (by first | exact Or.inl rfl | exact Or.inr (Or.inl rfl) | exact Or.inr (Or.inr rfl)) rfl rfl) (lasts_nh 3) (lasts_nh 2) rfl)) rfl)) (lasts_fz _) da_nil rfl) rfl) (fun _ _ _ h => semArgs_len1 rfl h) rfl rfl rfl)) rfl)) (lasts_fz _) da_nil rfl) rfl (G _ (by decide)) (by first | rfl | decide +kernel) (by decide) rfl rfl)) dss_nil)
/-! _law_closed -/
abbrev t__law_closed : Stmt := top 51
theorem sc__law_closed : FnScope ["makers", "rows", "most", "known", "turn", "news", "order", "maker", "some", "row"] ["makers", "rows", "most"] (defScope t__law_closed) := ⟨rfl, rfl, rfl, by decide +kernel, rfl, by decide +kernel, by decide +kernel⟩
theorem d__law_closed {T : Tx} {k : Nat} (G : ∀ x ∈ (["dict", "len", "min", "range", "sorted"] : List Str), T.mg x = none) (C__law_choices : CallE T k "_law_choices" 2 cs__law_choices) (C__law_made_of : CallE T k "_law_made_of" 2 cs__law_made_of) : DSs T ["makers", "rows", "most", "known", "turn", "news", "order", "maker", "some", "row"] (defScope t__law_closed) true [0, 1, 2] k (defBody t__law_closed) (b__law_closed) :=
  (dss_cons (ds_set (de_callTy c_dictP (da_cons (de_fz (de_comp (own := [("row", 9)]) rfl (di_seq (de_nv (i := 1) rfl (by first | exact Or.inl rfl | exact Or.inr (Or.inl rfl) | exact Or.inr (Or.inr rfl)) rfl rfl)) (by first | rfl | decide +kernel) rfl rfl dc_nil (de_fz (de_tup (da_cons (de_nv (i := 9) rfl (by first | exact Or.inl rfl | exact Or.inr (Or.inl rfl) | exact Or.inr (Or.inr rfl)) rfl rfl) (lasts_nv 9) (da_cons de_bl (lasts_C _) da_nil rfl) rfl))) rfl)) (lasts_fz _) da_nil rfl) rfl (G _ (by decide)) (by first | rfl | decide +kernel) (by decide) rfl rfl) rfl rfl (by decide) (.inl rfl)) (dss_cons (ds_for rfl (di_range1 (da_cons (de_fz (de_op o_add (de_nh (i := 2) rfl (by first | exact Or.inl rfl | exact Or.inr (Or.inl rfl) | exact Or.inr (Or.inr rfl)) rfl rfl) de_int (lasts_nh 2) (lasts_C _))) (lasts_fz _) da_nil rfl) rfl (G _ (by decide)) rfl) rfl rfl (dss_cons (ds_set de_dic0 rfl rfl (by decide) (.inl rfl)) (dss_cons (ds_set (de_callB c_sorted (da_cons (de_nh (i := 3) rfl (by first | exact Or.inl rfl | exact Or.inr (Or.inl rfl) | exact Or.inr (Or.inr rfl)) rfl rfl) (lasts_nh 3) da_nil rfl) rfl (G _ (by decide)) (by first | rfl | decide +kernel) (by decide) rfl rfl) rfl rfl (by decide) (.inl rfl)) (dss_cons (ds_for rfl (di_seq (de_nv (i := 0) rfl (by first | exact Or.inl rfl | exact Or.inr (Or.inl rfl) | exact Or.inr (Or.inr rfl)) rfl rfl)) rfl rfl (dss_cons (ds_if (dt_cmp o_gt (de_fz (de_callB c_len (da_cons (de_nh (i := 6) rfl (by first | exact Or.inl rfl | exact Or.inr (Or.inl rfl) | exact Or.inr (Or.inr rfl)) rfl rfl) (lasts_nh 6) da_nil rfl) rfl (G _ (by decide)) (by first | rfl | decide +kernel) (by decide) rfl rfl)) (de_fz (de_op o_mul (de_fz (de_ix o_ix (de_fz (de_lst (da_cons de_int (lasts_C _) (da_cons de_int (lasts_C _) (da_cons de_int (lasts_C _) (da_cons de_int (lasts_C _) (da_cons de_int (lasts_C _) da_nil rfl) rfl) rfl) rfl) rfl))) (de_fz (de_callB c_min (da_cons de_int (lasts_C _) (da_cons (de_fz (de_ix o_ix (de_nh (i := 7) rfl (by first | exact Or.inl rfl | exact Or.inr (Or.inl rfl) | exact Or.inr (Or.inr rfl)) rfl rfl) de_int (lasts_nh 7) (lasts_C _) rfl)) (lasts_fz _) da_nil rfl) rfl) rfl (G _ (by decide)) (by first | rfl | decide +kernel) (by decide) rfl rfl)) (lasts_fz _) (lasts_fz _) rfl)) de_int (lasts_fz _) (lasts_C _))) (lasts_fz _) (lasts_fz _) rfl) (dss_cons (ds_ret de_non) dss_nil) dss_nil) (dss_cons (ds_for rfl (di_seq (de_fz (de_call C__law_choices (da_cons (de_nv (i := 6) rfl (by first | exact Or.inl rfl | exact Or.inr (Or.inl rfl) | exact Or.inr (Or.inr rfl)) rfl rfl) (lasts_nv 6) (da_cons (de_fz (de_ix o_ix (de_nh (i := 7) rfl (by first | exact Or.inl rfl | exact Or.inr (Or.inl rfl) | exact Or.inr (Or.inr rfl)) rfl rfl) de_int (lasts_nh 7) (lasts_C _) rfl)) (lasts_fz _) da_nil rfl) rfl) (fun _ _ _ h => semArgs_len1 rfl h) rfl rfl rfl))) rfl rfl (dss_cons (ds_set (de_call C__law_made_of (da_cons (de_nv (i := 7) rfl (by first | exact Or.inl rfl | exact Or.inr (Or.inl rfl) | exact Or.inr (Or.inr rfl)) rfl rfl) (lasts_nv 7) (da_cons (de_nv (i := 8) rfl (by first | exact Or.inl rfl | exact Or.inr (Or.inl rfl) | exact Or.inr (Or.inr rfl)) rfl rfl) (lasts_nv 8) da_nil rfl) rfl) (fun _ _ _ h => semArgs_len1 rfl h) rfl rfl rfl) rfl rfl (by decide) (.inl rfl)) (dss_cons (ds_if (dt_cmp o_notin (de_nh (i := 9) rfl (by first | exact Or.inl rfl | exact Or.inr (Or.inl rfl) | exact Or.inr (Or.inr rfl)) rfl rfl) (de_nh (i := 3) rfl (by first | exact Or.inl rfl | exact Or.inr (Or.inl rfl) | exact Or.inr (Or.inr rfl)) rfl rfl) (lasts_nh 9) (lasts_nh 3) rfl) (dss_cons (ds_setIx (i := 5) rfl (by first | exact Or.inl rfl | exact Or.inr (Or.inl rfl) | exact Or.inr (Or.inr rfl)) rfl rfl de_bl (de_nh (i := 9) rfl (by first | exact Or.inl rfl | exact Or.inr (Or.inl rfl) | exact Or.inr (Or.inr rfl)) rfl rfl) (lasts_nh 9) rfl) dss_nil) dss_nil) dss_nil)) rfl) dss_nil)) rfl) (dss_cons (ds_if (dt_not (dt_tru (de_nh (i := 5) rfl (by first | exact Or.inl rfl | exact Or.inr (Or.inl rfl) | exact Or.inr (Or.inr rfl)) rfl rfl) (lasts_nh 5) rfl)) (dss_cons (ds_ret (de_nm (i := 6) rfl (by first | exact Or.inl rfl | exact Or.inr (Or.inl rfl) | exact Or.inr (Or.inr rfl)) rfl rfl)) dss_nil) dss_nil) (dss_cons (ds_expr (de_mut pa_dict EV.slot_dict_update EV.ty_dict_update m_update (i := 3) rfl (by first | exact Or.inl rfl | exact Or.inr (Or.inl rfl) | exact Or.inr (Or.inr rfl)) rfl rfl (da_cons (de_nv (i := 5) rfl (by first | exact Or.inl rfl | exact Or.inr (Or.inl rfl) | exact Or.inr (Or.inr rfl)) rfl rfl) (lasts_nv 5) da_nil rfl) rfl rfl (by decide)) rfl) (dss_cons (ds_if (dt_cmp o_gt (de_fz (de_callB c_len (da_cons (de_nh (i := 3) rfl (by first | exact Or.inl rfl | exact Or.inr (Or.inl rfl) | exact Or.inr (Or.inr rfl)) rfl rfl) (lasts_nh 3) da_nil rfl) rfl (G _ (by decide)) (by first | rfl | decide +kernel) (by decide) rfl rfl)) (de_nh (i := 2) rfl (by first | exact Or.inl rfl | exact Or.inr (Or.inl rfl) | exact Or.inr (Or.inr rfl)) rfl rfl) (lasts_fz _) (lasts_nh 2) rfl) (dss_cons (ds_ret de_non) dss_nil) dss_nil) dss_nil)))))) rfl) (dss_cons (ds_ret de_non) dss_nil)))
/-! _law_broken -/
abbrev t__law_broken : Stmt := top 52
theorem sc__law_broken : FnScope ["operation", "relation", "some"] ["operation", "relation"] (defScope t__law_broken) := ⟨rfl, rfl, rfl, by decide +kernel, rfl, by decide +kernel, by decide +kernel⟩
theorem d__law_broken {T : Tx} {k : Nat} (C__law_choices : CallE T k "_law_choices" 2 cs__law_choices) (C__law_made_of : CallE T k "_law_made_of" 2 cs__law_made_of) : DSs T ["operation", "relation", "some"] (defScope t__law_broken) true [0, 1] k (defBody t__law_broken) (b__law_broken) :=
  (dss_cons (ds_for rfl (di_seq (de_fz (de_call C__law_choices (da_cons (de_fz (de_ix o_ix (de_nh (i := 1) rfl (by first | exact Or.inl rfl | exact Or.inr (Or.inl rfl) | exact Or.inr (Or.inr rfl)) rfl rfl) de_int (lasts_nh 1) (lasts_C _) rfl)) (lasts_fz _) (da_cons (de_fz (de_ix o_ix (de_nh (i := 0) rfl (by first | exact Or.inl rfl | exact Or.inr (Or.inl rfl) | exact Or.inr (Or.inr rfl)) rfl rfl) de_int (lasts_nh 0) (lasts_C _) rfl)) (lasts_fz _) da_nil rfl) rfl) (fun _ _ _ h => semArgs_len1 rfl h) rfl rfl rfl))) rfl rfl (dss_cons (ds_if (dt_cmp o_notin (de_fz (de_call C__law_made_of (da_cons (de_nv (i := 0) rfl (by first | exact Or.inl rfl | exact Or.inr (Or.inl rfl) | exact Or.inr (Or.inr rfl)) rfl rfl) (lasts_nv 0) (da_cons (de_nv (i := 2) rfl (by first | exact Or.inl rfl | exact Or.inr (Or.inl rfl) | exact Or.inr (Or.inr rfl)) rfl rfl) (lasts_nv 2) da_nil rfl) rfl) (fun _ _ _ h => semArgs_len1 rfl h) rfl rfl rfl)) (de_fz (de_ix o_ix (de_nh (i := 1) rfl (by first | exact Or.inl rfl | exact Or.inr (Or.inl rfl) | exact Or.inr (Or.inr rfl)) rfl rfl) de_int (lasts_nh 1) (lasts_C _) rfl)) (lasts_fz _) (lasts_fz _) rfl) (dss_cons (ds_ret (de_nm (i := 2) rfl (by first | exact Or.inl rfl | exact Or.inr (Or.inl rfl) | exact Or.inr (Or.inr rfl)) rfl rfl)) dss_nil) dss_nil) dss_nil) rfl) (dss_cons (ds_ret de_non) dss_nil))
/-! are_broken -/
abbrev t_are_broken : Stmt := top 34
theorem sc_are_broken : FnScope ["operation", "relation", "rows", "known", "row"] ["operation", "relation", "rows"] (defScope t_are_broken) := ⟨rfl, rfl, rfl, by decide +kernel, rfl, by decide +kernel, by decide +kernel⟩
theorem d_are_broken {T : Tx} {k : Nat} (G : ∀ x ∈ (["all", "len"] : List Str), T.mg x = none) (C_check_asked : CallE T k "check_asked" 2 cs_check_asked) (C_made_of : CallE T k "made_of" 2 cs_made_of) : DSs T ["operation", "relation", "rows", "known", "row"] (defScope t_are_broken) true [0, 1, 2] k (defBody t_are_broken) (b_are_broken) :=
  (dss_cons (ds_expr (de_call C_check_asked (da_cons (de_nv (i := 0) rfl (by first | exact Or.inl rfl | exact Or.inr (Or.inl rfl) | exact Or.inr (Or.inr rfl)) rfl rfl) (lasts_nv 0) (da_cons (de_nv (i := 1) rfl (by first | exact Or.inl rfl | exact Or.inr (Or.inl rfl) | exact Or.inr (Or.inr rfl)) rfl rfl) (lasts_nv 1) da_nil rfl) rfl) (fun _ _ _ h => semArgs_len1 rfl h) rfl rfl rfl) rfl) (dss_cons (ds_setDn (de_dcomp (own := [("row", 4)]) rfl (di_seq (de_fz (de_ix o_ix (de_nh (i := 1) rfl (by first | exact Or.inl rfl | exact Or.inr (Or.inl rfl) | exact Or.inr (Or.inr rfl)) rfl rfl) de_int (lasts_nh 1) (lasts_C _) rfl))) (by first | rfl | decide +kernel) rfl rfl dc_nil (de_nv (i := 4) rfl (by first | exact Or.inl rfl | exact Or.inr (Or.inl rfl) | exact Or.inr (Or.inr rfl)) rfl rfl) de_bl rfl) rfl rfl (by decide) rfl) (dss_cons (ds_if (dw_dt (dw_or (dt_cmp o_ne (de_fz (de_callB c_len (da_cons (de_nh (i := 2) rfl (by first | exact Or.inl rfl | exact Or.inr (Or.inl rfl) | exact Or.inr (Or.inr rfl)) rfl rfl) (lasts_nh 2) da_nil rfl) rfl (G _ (by decide)) (by first | rfl | decide +kernel) (by decide) rfl rfl)) (de_fz (de_ix o_ix (de_nh (i := 0) rfl (by first | exact Or.inl rfl | exact Or.inr (Or.inl rfl) | exact Or.inr (Or.inr rfl)) rfl rfl) de_int (lasts_nh 0) (lasts_C _) rfl)) (lasts_fz _) (lasts_fz _) rfl) (dw_or1 (dt_not (dt_tru (de_fz (de_callB c_all (da_cons (de_fz (de_comp (own := [("row", 4)]) rfl (di_seq (de_nv (i := 2) rfl (by first | exact Or.inl rfl | exact Or.inr (Or.inl rfl) | exact Or.inr (Or.inr rfl)) rfl rfl)) (by first | rfl | decide +kernel) rfl rfl dc_nil (de_fz (de_cmp o_in (de_nh (i := 4) rfl (by first | exact Or.inl rfl | exact Or.inr (Or.inl rfl) | exact Or.inr (Or.inr rfl)) rfl rfl) (de_nh (i := 3) rfl (by first | exact Or.inl rfl | exact Or.inr (Or.inl rfl) | exact Or.inr (Or.inr rfl)) rfl rfl) (lasts_nh 4) (lasts_nh 3) rfl)) rfl)) (lasts_fz _) da_nil rfl) rfl (G _ (by decide)) (by first | rfl | decide +kernel) (by decide) rfl rfl)) (lasts_fz _) rfl))))) (dss_cons (ds_ret de_bl) dss_nil) dss_nil) (dss_cons (ds_ret (de_cmp o_notin (de_fz (de_call C_made_of (da_cons (de_nv (i := 0) rfl (by first | exact Or.inl rfl | exact Or.inr (Or.inl rfl) | exact Or.inr (Or.inr rfl)) rfl rfl) (lasts_nv 0) (da_cons (de_nv (i := 2) rfl (by first | exact Or.inl rfl | exact Or.inr (Or.inl rfl) | exact Or.inr (Or.inr rfl)) rfl rfl) (lasts_nv 2) da_nil rfl) rfl) (fun _ _ _ h => semArgs_len1 rfl h) rfl rfl rfl)) (de_nh (i := 3) rfl (by first | exact Or.inl rfl | exact Or.inr (Or.inl rfl) | exact Or.inr (Or.inr rfl)) rfl rfl) (lasts_fz _) (lasts_nh 3) rfl)) dss_nil))))
/-! _law_asked -/
abbrev t__law_asked : Stmt := top 53
theorem sc__law_asked : FnScope ["way", "operation", "relation", "rows", "error"] ["way", "operation", "relation", "rows"] (defScope t__law_asked) := ⟨rfl, rfl, rfl, by decide +kernel, rfl, by decide +kernel, by decide +kernel⟩
theorem d__law_asked {T : Tx} {k : Nat} {kv : Value → Str → Prop} (KC : CallK T k "_law_kind" kv) (KE : TryK T "MakeError" kv kindOf) (C_keeps : CallE T k "keeps" 2 cs_keeps) (C_broken_rows : CallE T k "broken_rows" 2 cs_broken_rows) (C_are_broken : CallE T k "are_broken" 3 cs_are_broken) : DSs T ["way", "operation", "relation", "rows", "error"] (defScope t__law_asked) true [0, 1, 2, 3] k (defBody t__law_asked) (b__law_asked) :=
  (dss_cons (ds_tryKind (i := 4) rfl KC KE (dss_cons (ds_ret (de_if (dt_cmp o_lt (de_nh (i := 0) rfl (by first | exact Or.inl rfl | exact Or.inr (Or.inl rfl) | exact Or.inr (Or.inr rfl)) rfl rfl) de_int (lasts_nh 0) (lasts_C _) rfl) (de_pick (.cons C_keeps rfl rfl (.cons C_broken_rows rfl rfl .nil)) (de_nh (i := 0) rfl (by first | exact Or.inl rfl | exact Or.inr (Or.inl rfl) | exact Or.inr (Or.inr rfl)) rfl rfl) (lasts_nh 0) (da_cons (de_nv (i := 1) rfl (by first | exact Or.inl rfl | exact Or.inr (Or.inl rfl) | exact Or.inr (Or.inr rfl)) rfl rfl) (lasts_nv 1) (da_cons (de_nv (i := 2) rfl (by first | exact Or.inl rfl | exact Or.inr (Or.inl rfl) | exact Or.inr (Or.inr rfl)) rfl rfl) (lasts_nv 2) da_nil rfl) rfl) (fun _ _ _ h => semArgs_len1 rfl h) (by decide) rfl rfl) (de_call C_are_broken (da_cons (de_nv (i := 1) rfl (by first | exact Or.inl rfl | exact Or.inr (Or.inl rfl) | exact Or.inr (Or.inr rfl)) rfl rfl) (lasts_nv 1) (da_cons (de_nv (i := 2) rfl (by first | exact Or.inl rfl | exact Or.inr (Or.inl rfl) | exact Or.inr (Or.inr rfl)) rfl rfl) (lasts_nv 2) (da_cons (de_nv (i := 3) rfl (by first | exact Or.inl rfl | exact Or.inr (Or.inl rfl) | exact Or.inr (Or.inr rfl)) rfl rfl) (lasts_nv 3) da_nil rfl) rfl) rfl) (fun _ _ _ h => semArgs_len1 rfl h) rfl rfl rfl))) dss_nil) rfl rfl (by decide) rfl rfl rfl rfl rfl rfl) dss_nil)
/-! law -/
abbrev t_law : Stmt := top 54
theorem sc_law : FnScope ["script", "draws", "order", "k", "m", "often", "rows", "operation", "wider", "relation", "due", "some", "one", "right", "wrong", "bad", "odd", "told", "wide", "row", "way", "at"] ["script"] (defScope t_law) := ⟨rfl, rfl, rfl, by decide +kernel, rfl, by decide +kernel, by decide +kernel⟩
theorem d_law {T : Tx} {k : Nat} (G : ∀ x ∈ (["all", "int", "len", "range", "repr", "sorted", "tuple"] : List Str), T.mg x = none) (C__law_draws : CallE T k "_law_draws" 1 cs__law_draws) (C__law_more : CallE T k "_law_more" 2 cs__law_more) (C_broken_rows : CallE T k "broken_rows" 2 cs_broken_rows) (C_keeps : CallE T k "keeps" 2 cs_keeps) (C__law_next : CallE T k "_law_next" 1 cs__law_next) (C__law_pick : CallE T k "_law_pick" 2 cs__law_pick) (C__law_tuples : CallE T k "_law_tuples" 2 cs__law_tuples) (C__law_operation : CallE T k "_law_operation" 2 cs__law_operation) (C__law_closed : CallE T k "_law_closed" 3 cs__law_closed) (C__law_broken : CallE T k "_law_broken" 2 cs__law_broken) (C__law_asked : CallE T k "_law_asked" 4 cs__law_asked) (C__law_made_of : CallE T k "_law_made_of" 2 cs__law_made_of) (C_is_relation : CallE T k "is_relation" 1 cs_is_relation) : DSs T ["script", "draws", "order", "k", "m", "often", "rows", "operation", "wider", "relation", "due", "some", "one", "right", "wrong", "bad", "odd", "told", "wide", "row", "way", "at"] (defScope t_law) true [0] k (defBody t_law) (b_law) :=
  (dss_cons (ds_set (de_call C__law_draws (da_cons (de_nv (i := 0) rfl (by first | exact Or.inl rfl | exact Or.inr (Or.inl rfl) | exact Or.inr (Or.inr rfl)) rfl rfl) (lasts_nv 0) da_nil rfl) (fun _ _ _ h => semArgs_len1 rfl h) rfl rfl rfl) rfl rfl (by decide) (.inl rfl)) (dss_cons (ds_set (de_call C__law_more (da_cons (de_nh (i := 1) rfl (by first | exact Or.inl rfl | exact Or.inr (Or.inl rfl) | exact Or.inr (Or.inr rfl)) rfl rfl) (lasts_nh 1) (da_cons de_int (lasts_C _) da_nil rfl) rfl) (fun _ _ _ h => semArgs_len1 rfl h) rfl rfl rfl) rfl rfl (by decide) (.inl rfl)) (dss_cons (ds_set (de_tup (da_cons de_int (lasts_C _) (da_cons de_int (lasts_C _) (da_cons (de_fz (de_tup (da_cons (de_fz (de_tup (da_cons de_int (lasts_C _) (da_cons de_int (lasts_C _) da_nil rfl) rfl))) (lasts_fz _) (da_cons (de_fz (de_tup (da_cons de_int (lasts_C _) (da_cons de_int (lasts_C _) da_nil rfl) rfl))) (lasts_fz _) (da_cons (de_fz (de_tup (da_cons de_int (lasts_C _) (da_cons de_int (lasts_C _) da_nil rfl) rfl))) (lasts_fz _) da_nil rfl) rfl) rfl))) (lasts_fz _) da_nil rfl) rfl) rfl)) rfl rfl (by decide) (.inl rfl)) (dss_cons (ds_if (dt_cmp o_ne (de_fz (de_callB c_repr (da_cons (de_fz (de_lst (da_cons (de_fz (de_call C_broken_rows (da_cons (de_fz (de_tup (da_cons de_int (lasts_C _) (da_cons de_int (lasts_C _) (da_cons (de_fz (de_tup (da_cons de_int (lasts_C _) (da_cons de_int (lasts_C _) (da_cons de_int (lasts_C _) (da_cons de_int (lasts_C _) da_nil rfl) rfl) rfl) rfl))) (lasts_fz _) da_nil rfl) rfl) rfl))) (lasts_fz _) (da_cons (de_nv (i := 2) rfl (by first | exact Or.inl rfl | exact Or.inr (Or.inl rfl) | exact Or.inr (Or.inr rfl)) rfl rfl) (lasts_nv 2) da_nil rfl) rfl) (fun _ _ _ h => semArgs_len1 rfl h) rfl rfl rfl)) (lasts_fz _) (da_cons (de_fz (de_call C_keeps (da_cons (de_fz (de_tup (da_cons de_int (lasts_C _) (da_cons de_int (lasts_C _) (da_cons (de_fz (de_tup (da_cons de_int (lasts_C _) (da_cons de_int (lasts_C _) (da_cons de_int (lasts_C _) (da_cons de_int (lasts_C _) da_nil rfl) rfl) rfl) rfl))) (lasts_fz _) da_nil rfl) rfl) rfl))) (lasts_fz _) (da_cons (de_nv (i := 2) rfl (by first | exact Or.inl rfl | exact Or.inr (Or.inl rfl) | exact Or.inr (Or.inr rfl)) rfl rfl) (lasts_nv 2) da_nil rfl) rfl) (fun _ _ _ h => semArgs_len1 rfl h) rfl rfl rfl)) (lasts_fz _) da_nil rfl) rfl))) (lasts_fz _) da_nil rfl) rfl (G _ (by decide)) (by first | rfl | decide +kernel) (by decide) rfl rfl)) (de_fz (de_callB c_repr (da_cons (de_fz (de_lst (da_cons (de_fz (de_tup (da_cons (de_fz (de_tup (da_cons de_int (lasts_C _) (da_cons de_int (lasts_C _) da_nil rfl) rfl))) (lasts_fz _) (da_cons (de_fz (de_tup (da_cons de_int (lasts_C _) (da_cons de_int (lasts_C _) da_nil rfl) rfl))) (lasts_fz _) da_nil rfl) rfl))) (lasts_fz _) (da_cons de_bl (lasts_C _) da_nil rfl) rfl))) (lasts_fz _) da_nil rfl) rfl (G _ (by decide)) (by first | rfl | decide +kernel) (by decide) rfl rfl)) (lasts_fz _) (lasts_fz _) rfl) (dss_cons (ds_ret de_bl) dss_nil) dss_nil) (dss_cons (ds_set (de_op o_add de_int (de_fz (de_op o_mod (de_fz (de_callTy c_int (da_cons (de_fz (de_call C__law_next (da_cons (de_nh (i := 1) rfl (by first | exact Or.inl rfl | exact Or.inr (Or.inl rfl) | exact Or.inr (Or.inr rfl)) rfl rfl) (lasts_nh 1) da_nil rfl) (fun _ _ _ h => semArgs_len1 rfl h) rfl rfl rfl)) (lasts_fz _) da_nil rfl) rfl (G _ (by decide)) (by first | rfl | decide +kernel) (by decide) rfl rfl)) de_int (lasts_fz _) (lasts_C _))) (lasts_C _) (lasts_fz _)) rfl rfl (by decide) (.inl rfl)) (dss_cons (ds_set (de_op o_add de_int (de_fz (de_op o_mod (de_fz (de_callTy c_int (da_cons (de_fz (de_call C__law_next (da_cons (de_nh (i := 1) rfl (by first | exact Or.inl rfl | exact Or.inr (Or.inl rfl) | exact Or.inr (Or.inr rfl)) rfl rfl) (lasts_nh 1) da_nil rfl) (fun _ _ _ h => semArgs_len1 rfl h) rfl rfl rfl)) (lasts_fz _) da_nil rfl) rfl (G _ (by decide)) (by first | rfl | decide +kernel) (by decide) rfl rfl)) de_int (lasts_fz _) (lasts_C _))) (lasts_C _) (lasts_fz _)) rfl rfl (by decide) (.inl rfl)) (dss_cons (ds_set (de_call C__law_pick (da_cons (de_nh (i := 1) rfl (by first | exact Or.inl rfl | exact Or.inr (Or.inl rfl) | exact Or.inr (Or.inr rfl)) rfl rfl) (lasts_nh 1) (da_cons (de_fz (de_lst (da_cons de_int (lasts_C _) (da_cons de_int (lasts_C _) (da_cons de_int (lasts_C _) da_nil rfl) rfl) rfl))) (lasts_fz _) da_nil rfl) rfl) (fun _ _ _ h => semArgs_len1 rfl h) rfl rfl rfl) rfl rfl (by decide) (.inl rfl)) (dss_cons (ds_setLc (own := [("row", 19)]) rfl (di_seq (de_fz (de_call C__law_tuples (da_cons (de_nv (i := 3) rfl (by first | exact Or.inl rfl | exact Or.inr (Or.inl rfl) | exact Or.inr (Or.inr rfl)) rfl rfl) (lasts_nv 3) (da_cons (de_nv (i := 4) rfl (by first | exact Or.inl rfl | exact Or.inr (Or.inl rfl) | exact Or.inr (Or.inr rfl)) rfl rfl) (lasts_nv 4) da_nil rfl) rfl) (fun _ _ _ h => semArgs_len1 rfl h) rfl rfl rfl))) (by first | rfl | decide +kernel) rfl rfl (dc_one (dt_cmp o_eq (de_fz (de_op o_mod (de_fz (de_callTy c_int (da_cons (de_fz (de_call C__law_next (da_cons (de_nh (i := 1) rfl (by first | exact Or.inl rfl | exact Or.inr (Or.inl rfl) | exact Or.inr (Or.inr rfl)) rfl rfl) (lasts_nh 1) da_nil rfl) (fun _ _ _ h => semArgs_len1 rfl h) rfl rfl rfl)) (lasts_fz _) da_nil rfl) rfl (G _ (by decide)) (by first | rfl | decide +kernel) (by decide) rfl rfl)) (de_nh (i := 5) rfl (by first | exact Or.inl rfl | exact Or.inr (Or.inl rfl) | exact Or.inr (Or.inr rfl)) rfl rfl) (lasts_fz _) (lasts_nh 5))) de_int (lasts_fz _) (lasts_C _) rfl)) (de_nv (i := 19) rfl (by first | exact Or.inl rfl | exact Or.inr (Or.inl rfl) | exact Or.inr (Or.inr rfl)) rfl rfl) rfl rfl (by decide) rfl) (dss_cons (ds_set (de_call C__law_operation (da_cons (de_nh (i := 1) rfl (by first | exact Or.inl rfl | exact Or.inr (Or.inl rfl) | exact Or.inr (Or.inr rfl)) rfl rfl) (lasts_nh 1) (da_cons (de_nv (i := 3) rfl (by first | exact Or.inl rfl | exact Or.inr (Or.inl rfl) | exact Or.inr (Or.inr rfl)) rfl rfl) (lasts_nv 3) da_nil rfl) rfl) (fun _ _ _ h => semArgs_len1 rfl h) rfl rfl rfl) rfl rfl (by decide) (.inl rfl)) (dss_cons (ds_if (dt_cmp o_eq (de_fz (de_op o_mod (de_fz (de_callTy c_int (da_cons (de_fz (de_call C__law_next (da_cons (de_nh (i := 1) rfl (by first | exact Or.inl rfl | exact Or.inr (Or.inl rfl) | exact Or.inr (Or.inr rfl)) rfl rfl) (lasts_nh 1) da_nil rfl) (fun _ _ _ h => semArgs_len1 rfl h) rfl rfl rfl)) (lasts_fz _) da_nil rfl) rfl (G _ (by decide)) (by first | rfl | decide +kernel) (by decide) rfl rfl)) de_int (lasts_fz _) (lasts_C _))) de_int (lasts_fz _) (lasts_C _) rfl) (dss_cons (ds_set (de_call C__law_closed (da_cons (de_fz (de_tup (da_cons (de_nv (i := 7) rfl (by first | exact Or.inl rfl | exact Or.inr (Or.inl rfl) | exact Or.inr (Or.inr rfl)) rfl rfl) (lasts_nv 7) da_nil rfl))) (lasts_fz _) (da_cons (de_nv (i := 6) rfl (by first | exact Or.inl rfl | exact Or.inr (Or.inl rfl) | exact Or.inr (Or.inr rfl)) rfl rfl) (lasts_nv 6) (da_cons de_int (lasts_C _) da_nil rfl) rfl) rfl) (fun _ _ _ h => semArgs_len1 rfl h) rfl rfl rfl) rfl rfl (by decide) (.inl rfl)) (dss_cons (ds_set (de_if (dt_cmp o_is (de_nh (i := 8) rfl (by first | exact Or.inl rfl | exact Or.inr (Or.inl rfl) | exact Or.inr (Or.inr rfl)) rfl rfl) de_non (lasts_nh 8) (lasts_C _) rfl) (de_nv (i := 6) rfl (by first | exact Or.inl rfl | exact Or.inr (Or.inl rfl) | exact Or.inr (Or.inr rfl)) rfl rfl) (de_nv (i := 8) rfl (by first | exact Or.inl rfl | exact Or.inr (Or.inl rfl) | exact Or.inr (Or.inr rfl)) rfl rfl)) rfl rfl (by decide) (.inl rfl)) dss_nil)) dss_nil) (dss_cons (ds_set (de_tup (da_cons (de_nv (i := 3) rfl (by first | exact Or.inl rfl | exact Or.inr (Or.inl rfl) | exact Or.inr (Or.inr rfl)) rfl rfl) (lasts_nv 3) (da_cons (de_nv (i := 4) rfl (by first | exact Or.inl rfl | exact Or.inr (Or.inl rfl) | exact Or.inr (Or.inr rfl)) rfl rfl) (lasts_nv 4) (da_cons (de_fz (de_callTy c_tuple (da_cons (de_fz (de_callB c_sorted (da_cons (de_nh (i := 6) rfl (by first | exact Or.inl rfl | exact Or.inr (Or.inl rfl) | exact Or.inr (Or.inr rfl)) rfl rfl) (lasts_nh 6) da_nil rfl) rfl (G _ (by decide)) (by first | rfl | decide +kernel) (by decide) rfl rfl)) (lasts_fz _) da_nil rfl) rfl (G _ (by decide)) (by first | rfl | decide +kernel) (by decide) rfl rfl)) (lasts_fz _) da_nil rfl) rfl) rfl)) rfl rfl (by decide) (.inl rfl)) (dss_cons (ds_if (dw_dt (dw_and (dt_cmp o_gt (de_fz (de_callB c_len (da_cons (de_nh (i := 6) rfl (by first | exact Or.inl rfl | exact Or.inr (Or.inl rfl) | exact Or.inr (Or.inr rfl)) rfl rfl) (lasts_nh 6) da_nil rfl) rfl (G _ (by decide)) (by first | rfl | decide +kernel) (by decide) rfl rfl)) de_int (lasts_fz _) (lasts_C _) rfl) (dw_and1 (dt_cmp o_gt (de_fz (de_ix o_ix (de_nh (i := 7) rfl (by first | exact Or.inl rfl | exact Or.inr (Or.inl rfl) | exact Or.inr (Or.inr rfl)) rfl rfl) de_int (lasts_nh 7) (lasts_C _) rfl)) de_int (lasts_fz _) (lasts_C _) rfl)))) (dss_cons (ds_set (de_tup (da_cons (de_nv (i := 3) rfl (by first | exact Or.inl rfl | exact Or.inr (Or.inl rfl) | exact Or.inr (Or.inr rfl)) rfl rfl) (lasts_nv 3) (da_cons (de_nv (i := 4) rfl (by first | exact Or.inl rfl | exact Or.inr (Or.inl rfl) | exact Or.inr (Or.inr rfl)) rfl rfl) (lasts_nv 4) (da_cons (de_fz (de_callTy c_tuple (da_cons (de_fz (de_callB c_sorted (da_cons (de_fz (de_slice (de_nh (i := 6) rfl (by first | exact Or.inl rfl | exact Or.inr (Or.inl rfl) | exact Or.inr (Or.inr rfl)) rfl rfl) (lasts_nh 6) True.intro (And.intro de_int (lasts_C _)))) (lasts_fz _) da_nil rfl) rfl (G _ (by decide)) (by first | rfl | decide +kernel) (by decide) rfl rfl)) (lasts_fz _) da_nil rfl) rfl (G _ (by decide)) (by first | rfl | decide +kernel) (by decide) rfl rfl)) (lasts_fz _) da_nil rfl) rfl) rfl)) rfl rfl (by decide) (.inl rfl)) dss_nil) dss_nil) (dss_cons (ds_set (de_call C__law_broken (da_cons (de_nv (i := 7) rfl (by first | exact Or.inl rfl | exact Or.inr (Or.inl rfl) | exact Or.inr (Or.inr rfl)) rfl rfl) (lasts_nv 7) (da_cons (de_nv (i := 9) rfl (by first | exact Or.inl rfl | exact Or.inr (Or.inl rfl) | exact Or.inr (Or.inr rfl)) rfl rfl) (lasts_nv 9) da_nil rfl) rfl) (fun _ _ _ h => semArgs_len1 rfl h) rfl rfl rfl) rfl rfl (by decide) (.inl rfl)) (dss_cons (ds_if (dt_cmp o_ne (de_fz (de_callB c_repr (da_cons (de_fz (de_comp (own := [("way", 20)]) rfl (di_range1 (da_cons de_int (lasts_C _) da_nil rfl) rfl (G _ (by decide)) rfl) (by first | rfl | decide +kernel) rfl rfl dc_nil (de_fz (de_call C__law_asked (da_cons (de_nv (i := 20) rfl (by first | exact Or.inl rfl | exact Or.inr (Or.inl rfl) | exact Or.inr (Or.inr rfl)) rfl rfl) (lasts_nv 20) (da_cons (de_nv (i := 7) rfl (by first | exact Or.inl rfl | exact Or.inr (Or.inl rfl) | exact Or.inr (Or.inr rfl)) rfl rfl) (lasts_nv 7) (da_cons (de_nv (i := 9) rfl (by first | exact Or.inl rfl | exact Or.inr (Or.inl rfl) | exact Or.inr (Or.inr rfl)) rfl rfl) (lasts_nv 9) (da_cons de_non (lasts_C _) da_nil rfl) rfl) rfl) rfl) (fun _ _ _ h => semArgs_len1 rfl h) rfl rfl rfl)) rfl)) (lasts_fz _) da_nil rfl) rfl (G _ (by decide)) (by first | rfl | decide +kernel) (by decide) rfl rfl)) (de_fz (de_callB c_repr (da_cons (de_fz (de_lst (da_cons (de_fz (de_cmp o_is (de_nh (i := 10) rfl (by first | exact Or.inl rfl | exact Or.inr (Or.inl rfl) | exact Or.inr (Or.inr rfl)) rfl rfl) de_non (lasts_nh 10) (lasts_C _) rfl)) (lasts_fz _) (da_cons (de_nv (i := 10) rfl (by first | exact Or.inl rfl | exact Or.inr (Or.inl rfl) | exact Or.inr (Or.inr rfl)) rfl rfl) (lasts_nv 10) da_nil rfl) rfl))) (lasts_fz _) da_nil rfl) rfl (G _ (by decide)) (by first | rfl | decide +kernel) (by decide) rfl rfl)) (lasts_fz _) (lasts_fz _) rfl) (dss_cons (ds_ret de_bl) dss_nil) dss_nil) (dss_cons (ds_set (de_lst (da_cons (de_fz (de_if (dt_cmp o_is (de_nh (i := 10) rfl (by first | exact Or.inl rfl | exact Or.inr (Or.inl rfl) | exact Or.inr (Or.inr rfl)) rfl rfl) de_non (lasts_nh 10) (lasts_C _) rfl) (de_tup da_nil) (de_nv (i := 10) rfl (by first | exact Or.inl rfl | exact Or.inr (Or.inl rfl) | exact Or.inr (Or.inr rfl)) rfl rfl))) (lasts_fz _) (da_cons (de_fz (de_if (dt_tru (de_fz (de_ix o_ix (de_nh (i := 9) rfl (by first | exact Or.inl rfl | exact Or.inr (Or.inl rfl) | exact Or.inr (Or.inr rfl)) rfl rfl) de_int (lasts_nh 9) (lasts_C _) rfl)) (lasts_fz _) rfl) (de_callTy c_tuple (da_cons (de_fz (de_comp (own := [("at", 21)]) rfl (di_range1 (da_cons (de_fz (de_ix o_ix (de_nh (i := 7) rfl (by first | exact Or.inl rfl | exact Or.inr (Or.inl rfl) | exact Or.inr (Or.inr rfl)) rfl rfl) de_int (lasts_nh 7) (lasts_C _) rfl)) (lasts_fz _) da_nil rfl) rfl (G _ (by decide)) rfl) (by first | rfl | decide +kernel) rfl rfl dc_nil (de_fz (de_call C__law_pick (da_cons (de_nh (i := 1) rfl (by first | exact Or.inl rfl | exact Or.inr (Or.inl rfl) | exact Or.inr (Or.inr rfl)) rfl rfl) (lasts_nh 1) (da_cons (de_fz (de_ix o_ix (de_nh (i := 9) rfl (by first | exact Or.inl rfl | exact Or.inr (Or.inl rfl) | exact Or.inr (Or.inr rfl)) rfl rfl) de_int (lasts_nh 9) (lasts_C _) rfl)) (lasts_fz _) da_nil rfl) rfl) (fun _ _ _ h => semArgs_len1 rfl h) rfl rfl rfl)) rfl)) (lasts_fz _) da_nil rfl) rfl (G _ (by decide)) (by first | rfl | decide +kernel) (by decide) rfl rfl) (de_tup (da_cons (de_fz (de_op o_mul (de_fz (de_tup (da_cons de_int (lasts_C _) da_nil rfl))) (de_nh (i := 4) rfl (by first | exact Or.inl rfl | exact Or.inr (Or.inl rfl) | exact Or.inr (Or.inr rfl)) rfl rfl) (lasts_fz _) (lasts_nh 4))) (lasts_fz _) da_nil rfl)))) (lasts_fz _) (da_cons (de_fz (de_op o_mul (de_fz (de_tup (da_cons (de_fz (de_op o_mul (de_fz (de_tup (da_cons de_int (lasts_C _) da_nil rfl))) (de_nh (i := 4) rfl (by first | exact Or.inl rfl | exact Or.inr (Or.inl rfl) | exact Or.inr (Or.inr rfl)) rfl rfl) (lasts_fz _) (lasts_nh 4))) (lasts_fz _) da_nil rfl))) (de_fz (de_ix o_ix (de_nh (i := 7) rfl (by first | exact Or.inl rfl | exact Or.inr (Or.inl rfl) | exact Or.inr (Or.inr rfl)) rfl rfl) de_int (lasts_nh 7) (lasts_C _) rfl)) (lasts_fz _) (lasts_fz _))) (lasts_fz _) (da_cons (de_fz (de_tup da_nil)) (lasts_fz _) da_nil rfl) rfl) rfl) rfl)) rfl rfl (by decide) (.inl rfl)) (dss_cons (ds_for rfl (di_seq (de_fz (de_op o_add (de_nh (i := 11) rfl (by first | exact Or.inl rfl | exact Or.inr (Or.inl rfl) | exact Or.inr (Or.inr rfl)) rfl rfl) (de_fz (de_lst (da_cons (de_fz (de_callTy c_tuple (da_cons (de_fz (de_slice (de_fz (de_ix o_ix (de_nh (i := 11) rfl (by first | exact Or.inl rfl | exact Or.inr (Or.inl rfl) | exact Or.inr (Or.inr rfl)) rfl rfl) de_int (lasts_nh 11) (lasts_C _) rfl)) (lasts_fz _) True.intro (And.intro (de_fz (de_un o_neg de_int (lasts_C _))) (lasts_fz _)))) (lasts_fz _) da_nil rfl) rfl (G _ (by decide)) (by first | rfl | decide +kernel) (by decide) rfl rfl)) (lasts_fz _) da_nil rfl))) (lasts_nh 11) (lasts_fz _)))) rfl rfl (dss_cons (ds_set (de_and (de_fz (de_cmp o_eq (de_fz (de_callB c_len (da_cons (de_nh (i := 12) rfl (by first | exact Or.inl rfl | exact Or.inr (Or.inl rfl) | exact Or.inr (Or.inr rfl)) rfl rfl) (lasts_nh 12) da_nil rfl) rfl (G _ (by decide)) (by first | rfl | decide +kernel) (by decide) rfl rfl)) (de_fz (de_ix o_ix (de_nh (i := 7) rfl (by first | exact Or.inl rfl | exact Or.inr (Or.inl rfl) | exact Or.inr (Or.inr rfl)) rfl rfl) de_int (lasts_nh 7) (lasts_C _) rfl)) (lasts_fz _) (lasts_fz _) rfl)) (lasts_fz _) (de_and (de_fz (de_callB c_all (da_cons (de_fz (de_comp (own := [("row", 19)]) rfl (di_seq (de_nv (i := 12) rfl (by first | exact Or.inl rfl | exact Or.inr (Or.inl rfl) | exact Or.inr (Or.inr rfl)) rfl rfl)) (by first | rfl | decide +kernel) rfl rfl dc_nil (de_fz (de_cmp o_in (de_nh (i := 19) rfl (by first | exact Or.inl rfl | exact Or.inr (Or.inl rfl) | exact Or.inr (Or.inr rfl)) rfl rfl) (de_fz (de_ix o_ix (de_nh (i := 9) rfl (by first | exact Or.inl rfl | exact Or.inr (Or.inl rfl) | exact Or.inr (Or.inr rfl)) rfl rfl) de_int (lasts_nh 9) (lasts_C _) rfl)) (lasts_nh 19) (lasts_fz _) rfl)) rfl)) (lasts_fz _) da_nil rfl) rfl (G _ (by decide)) (by first | rfl | decide +kernel) (by decide) rfl rfl)) (lasts_fz _) (de_one (de_cmp o_notin (de_fz (de_call C__law_made_of (da_cons (de_nv (i := 7) rfl (by first | exact Or.inl rfl | exact Or.inr (Or.inl rfl) | exact Or.inr (Or.inr rfl)) rfl rfl) (lasts_nv 7) (da_cons (de_nv (i := 12) rfl (by first | exact Or.inl rfl | exact Or.inr (Or.inl rfl) | exact Or.inr (Or.inr rfl)) rfl rfl) (lasts_nv 12) da_nil rfl) rfl) (fun _ _ _ h => semArgs_len1 rfl h) rfl rfl rfl)) (de_fz (de_ix o_ix (de_nh (i := 9) rfl (by first | exact Or.inl rfl | exact Or.inr (Or.inl rfl) | exact Or.inr (Or.inr rfl)) rfl rfl) de_int (lasts_nh 9) (lasts_C _) rfl)) (lasts_fz _) (lasts_fz _) rfl)))) rfl rfl (by decide) (.inl rfl)) (dss_cons (ds_if (dt_cmp o_ne (de_fz (de_callB c_repr (da_cons (de_fz (de_call C__law_asked (da_cons de_int (lasts_C _) (da_cons (de_nv (i := 7) rfl (by first | exact Or.inl rfl | exact Or.inr (Or.inl rfl) | exact Or.inr (Or.inr rfl)) rfl rfl) (lasts_nv 7) (da_cons (de_nv (i := 9) rfl (by first | exact Or.inl rfl | exact Or.inr (Or.inl rfl) | exact Or.inr (Or.inr rfl)) rfl rfl) (lasts_nv 9) (da_cons (de_nv (i := 12) rfl (by first | exact Or.inl rfl | exact Or.inr (Or.inl rfl) | exact Or.inr (Or.inr rfl)) rfl rfl) (lasts_nv 12) da_nil rfl) rfl) rfl) rfl) (fun _ _ _ h => semArgs_len1 rfl h) rfl rfl rfl)) (lasts_fz _) da_nil rfl) rfl (G _ (by decide)) (by first | rfl | decide +kernel) (by decide) rfl rfl)) (de_fz (de_callB c_repr (da_cons (de_nh (i := 13) rfl (by first | exact Or.inl rfl | exact Or.inr (Or.inl rfl) | exact Or.inr (Or.inr rfl)) rfl rfl) (lasts_nh 13) da_nil rfl) rfl (G _ (by decide)) (by first | rfl | decide +kernel) (by decide) rfl rfl)) (lasts_fz _) (lasts_fz _) rfl) (dss_cons (ds_ret de_bl) dss_nil) dss_nil) dss_nil)) rfl) (dss_cons (ds_set (de_lst (da_cons (de_fz (de_tup (da_cons de_int (lasts_C _) (da_cons de_int (lasts_C _) (da_cons (de_fz (de_tup da_nil)) (lasts_fz _) da_nil rfl) rfl) rfl))) (lasts_fz _) (da_cons (de_fz (de_tup (da_cons de_int (lasts_C _) (da_cons de_int (lasts_C _) (da_cons (de_fz (de_tup da_nil)) (lasts_fz _) da_nil rfl) rfl) rfl))) (lasts_fz _) (da_cons (de_fz (de_tup (da_cons (de_nv (i := 3) rfl (by first | exact Or.inl rfl | exact Or.inr (Or.inl rfl) | exact Or.inr (Or.inr rfl)) rfl rfl) (lasts_nv 3) (da_cons de_int (lasts_C _) (da_cons (de_fz (de_tup da_nil)) (lasts_fz _) da_nil rfl) rfl) rfl))) (lasts_fz _) (da_cons (de_fz (de_tup (da_cons (de_nv (i := 3) rfl (by first | exact Or.inl rfl | exact Or.inr (Or.inl rfl) | exact Or.inr (Or.inr rfl)) rfl rfl) (lasts_nv 3) (da_cons de_int (lasts_C _) (da_cons (de_fz (de_tup da_nil)) (lasts_fz _) da_nil rfl) rfl) rfl))) (lasts_fz _) (da_cons (de_fz (de_tup (da_cons (de_nv (i := 3) rfl (by first | exact Or.inl rfl | exact Or.inr (Or.inl rfl) | exact Or.inr (Or.inr rfl)) rfl rfl) (lasts_nv 3) (da_cons de_int (lasts_C _) (da_cons (de_fz (de_tup (da_cons (de_fz (de_tup (da_cons de_int (lasts_C _) da_nil rfl))) (lasts_fz _) (da_cons (de_fz (de_tup (da_cons de_int (lasts_C _) da_nil rfl))) (lasts_fz _) da_nil rfl) rfl))) (lasts_fz _) da_nil rfl) rfl) rfl))) (lasts_fz _) (da_cons (de_fz (de_tup (da_cons (de_nv (i := 3) rfl (by first | exact Or.inl rfl | exact Or.inr (Or.inl rfl) | exact Or.inr (Or.inr rfl)) rfl rfl) (lasts_nv 3) (da_cons de_int (lasts_C _) (da_cons (de_fz (de_tup (da_cons (de_fz (de_tup (da_cons de_int (lasts_C _) da_nil rfl))) (lasts_fz _) (da_cons (de_fz (de_tup (da_cons de_int (lasts_C _) da_nil rfl))) (lasts_fz _) da_nil rfl) rfl))) (lasts_fz _) da_nil rfl) rfl) rfl))) (lasts_fz _) (da_cons (de_fz (de_tup (da_cons (de_nv (i := 3) rfl (by first | exact Or.inl rfl | exact Or.inr (Or.inl rfl) | exact Or.inr (Or.inr rfl)) rfl rfl) (lasts_nv 3) (da_cons de_int (lasts_C _) (da_cons (de_fz (de_tup (da_cons (de_fz (de_tup (da_cons de_int (lasts_C _) da_nil rfl))) (lasts_fz _) da_nil rfl))) (lasts_fz _) da_nil rfl) rfl) rfl))) (lasts_fz _) (da_cons (de_fz (de_tup (da_cons (de_nv (i := 3) rfl (by first | exact Or.inl rfl | exact Or.inr (Or.inl rfl) | exact Or.inr (Or.inr rfl)) rfl rfl) (lasts_nv 3) (da_cons de_int (lasts_C _) (da_cons (de_fz (de_tup (da_cons (de_fz (de_tup (da_cons (de_nv (i := 3) rfl (by first | exact Or.inl rfl | exact Or.inr (Or.inl rfl) | exact Or.inr (Or.inr rfl)) rfl rfl) (lasts_nv 3) da_nil rfl))) (lasts_fz _) da_nil rfl))) (lasts_fz _) da_nil rfl) rfl) rfl))) (lasts_fz _) (da_cons (de_fz (de_tup (da_cons (de_nv (i := 3) rfl (by first | exact Or.inl rfl | exact Or.inr (Or.inl rfl) | exact Or.inr (Or.inr rfl)) rfl rfl) (lasts_nv 3) (da_cons de_int (lasts_C _) (da_cons (de_fz (de_tup (da_cons (de_fz (de_tup (da_cons (de_fz (de_un o_neg de_int (lasts_C _))) (lasts_fz _) da_nil rfl))) (lasts_fz _) da_nil rfl))) (lasts_fz _) da_nil rfl) rfl) rfl))) (lasts_fz _) da_nil rfl) rfl) rfl) rfl) rfl) rfl) rfl) rfl) rfl)) rfl rfl (by decide) (.inl rfl)) (dss_cons (ds_if (dt_cmp o_ne (de_fz (de_comp (own := [("one", 12)]) rfl (di_seq (de_fz (de_op o_add (de_nh (i := 14) rfl (by first | exact Or.inl rfl | exact Or.inr (Or.inl rfl) | exact Or.inr (Or.inr rfl)) rfl rfl) (de_fz (de_lst (da_cons (de_nv (i := 9) rfl (by first | exact Or.inl rfl | exact Or.inr (Or.inl rfl) | exact Or.inr (Or.inr rfl)) rfl rfl) (lasts_nv 9) (da_cons (de_fz (de_tup (da_cons (de_nv (i := 3) rfl (by first | exact Or.inl rfl | exact Or.inr (Or.inl rfl) | exact Or.inr (Or.inr rfl)) rfl rfl) (lasts_nv 3) (da_cons de_int (lasts_C _) (da_cons (de_fz (de_tup (da_cons (de_fz (de_op o_mul (de_fz (de_tup (da_cons de_int (lasts_C _) da_nil rfl))) de_int (lasts_fz _) (lasts_C _))) (lasts_fz _) da_nil rfl))) (lasts_fz _) da_nil rfl) rfl) rfl))) (lasts_fz _) (da_cons (de_fz (de_tup (da_cons (de_nv (i := 3) rfl (by first | exact Or.inl rfl | exact Or.inr (Or.inl rfl) | exact Or.inr (Or.inr rfl)) rfl rfl) (lasts_nv 3) (da_cons de_int (lasts_C _) (da_cons (de_fz (de_tup da_nil)) (lasts_fz _) da_nil rfl) rfl) rfl))) (lasts_fz _) da_nil rfl) rfl) rfl))) (lasts_nh 14) (lasts_fz _)))) (by first | rfl | decide +kernel) rfl rfl dc_nil (de_fz (de_call C_is_relation (da_cons (de_nv (i := 12) rfl (by first | exact Or.inl rfl | exact Or.inr (Or.inl rfl) | exact Or.inr (Or.inr rfl)) rfl rfl) (lasts_nv 12) da_nil rfl) (fun _ _ _ h => semArgs_len1 rfl h) rfl rfl rfl)) rfl)) (de_fz (de_op o_add (de_fz (de_op o_mul (de_fz (de_lst (da_cons de_bl (lasts_C _) da_nil rfl))) de_int (lasts_fz _) (lasts_C _))) (de_fz (de_op o_mul (de_fz (de_lst (da_cons de_bl (lasts_C _) da_nil rfl))) de_int (lasts_fz _) (lasts_C _))) (lasts_fz _) (lasts_fz _))) (lasts_fz _) (lasts_fz _) rfl) (dss_cons (ds_ret de_bl) dss_nil) dss_nil) (dss_cons (ds_asgC rfl (da_cons (de_fz (de_call C__law_pick (da_cons (de_nh (i := 1) rfl (by first | exact Or.inl rfl | exact Or.inr (Or.inl rfl) | exact Or.inr (Or.inr rfl)) rfl rfl) (lasts_nh 1) (da_cons (de_nv (i := 14) rfl (by first | exact Or.inl rfl | exact Or.inr (Or.inl rfl) | exact Or.inr (Or.inr rfl)) rfl rfl) (lasts_nv 14) da_nil rfl) rfl) (fun _ _ _ h => semArgs_len1 rfl h) rfl rfl rfl)) (lasts_fz _) (da_cons (de_fz (de_tup (da_cons (de_fz (de_op o_sub de_int (de_nh (i := 3) rfl (by first | exact Or.inl rfl | exact Or.inr (Or.inl rfl) | exact Or.inr (Or.inr rfl)) rfl rfl) (lasts_C _) (lasts_nh 3))) (lasts_fz _) (da_cons de_int (lasts_C _) (da_cons (de_fz (de_tup (da_cons (de_fz (de_tup (da_cons de_int (lasts_C _) da_nil rfl))) (lasts_fz _) da_nil rfl))) (lasts_fz _) da_nil rfl) rfl) rfl))) (lasts_fz _) da_nil rfl) rfl) (by first | exact .inl rfl | exact .inr rfl) rfl rfl) (dss_cons (ds_set (de_op o_add (de_fz (de_op o_add (de_fz (de_comp (own := [("way", 20)]) rfl (di_range1 (da_cons de_int (lasts_C _) da_nil rfl) rfl (G _ (by decide)) rfl) (by first | rfl | decide +kernel) rfl rfl dc_nil (de_fz (de_call C__law_asked (da_cons (de_nv (i := 20) rfl (by first | exact Or.inl rfl | exact Or.inr (Or.inl rfl) | exact Or.inr (Or.inr rfl)) rfl rfl) (lasts_nv 20) (da_cons (de_fz (de_tup (da_cons (de_nv (i := 3) rfl (by first | exact Or.inl rfl | exact Or.inr (Or.inl rfl) | exact Or.inr (Or.inr rfl)) rfl rfl) (lasts_nv 3) (da_cons de_int (lasts_C _) (da_cons (de_fz (de_op o_mul (de_fz (de_tup (da_cons de_int (lasts_C _) da_nil rfl))) (de_nh (i := 3) rfl (by first | exact Or.inl rfl | exact Or.inr (Or.inl rfl) | exact Or.inr (Or.inr rfl)) rfl rfl) (lasts_fz _) (lasts_nh 3))) (lasts_fz _) da_nil rfl) rfl) rfl))) (lasts_fz _) (da_cons (de_nv (i := 15) rfl (by first | exact Or.inl rfl | exact Or.inr (Or.inl rfl) | exact Or.inr (Or.inr rfl)) rfl rfl) (lasts_nv 15) (da_cons (de_fz (de_tup da_nil)) (lasts_fz _) da_nil rfl) rfl) rfl) rfl) (fun _ _ _ h => semArgs_len1 rfl h) rfl rfl rfl)) rfl)) (de_fz (de_comp (own := [("way", 20)]) rfl (di_range1 (da_cons de_int (lasts_C _) da_nil rfl) rfl (G _ (by decide)) rfl) (by first | rfl | decide +kernel) rfl rfl dc_nil (de_fz (de_call C__law_asked (da_cons (de_nv (i := 20) rfl (by first | exact Or.inl rfl | exact Or.inr (Or.inl rfl) | exact Or.inr (Or.inr rfl)) rfl rfl) (lasts_nv 20) (da_cons (de_nv (i := 7) rfl (by first | exact Or.inl rfl | exact Or.inr (Or.inl rfl) | exact Or.inr (Or.inr rfl)) rfl rfl) (lasts_nv 7) (da_cons (de_nv (i := 15) rfl (by first | exact Or.inl rfl | exact Or.inr (Or.inl rfl) | exact Or.inr (Or.inr rfl)) rfl rfl) (lasts_nv 15) (da_cons (de_fz (de_tup da_nil)) (lasts_fz _) da_nil rfl) rfl) rfl) rfl) (fun _ _ _ h => semArgs_len1 rfl h) rfl rfl rfl)) rfl)) (lasts_fz _) (lasts_fz _))) (de_fz (de_comp (own := [("way", 20)]) rfl (di_range1 (da_cons de_int (lasts_C _) da_nil rfl) rfl (G _ (by decide)) rfl) (by first | rfl | decide +kernel) rfl rfl dc_nil (de_fz (de_call C__law_asked (da_cons (de_nv (i := 20) rfl (by first | exact Or.inl rfl | exact Or.inr (Or.inl rfl) | exact Or.inr (Or.inr rfl)) rfl rfl) (lasts_nv 20) (da_cons (de_nv (i := 7) rfl (by first | exact Or.inl rfl | exact Or.inr (Or.inl rfl) | exact Or.inr (Or.inr rfl)) rfl rfl) (lasts_nv 7) (da_cons (de_nv (i := 16) rfl (by first | exact Or.inl rfl | exact Or.inr (Or.inl rfl) | exact Or.inr (Or.inr rfl)) rfl rfl) (lasts_nv 16) (da_cons (de_fz (de_tup da_nil)) (lasts_fz _) da_nil rfl) rfl) rfl) rfl) (fun _ _ _ h => semArgs_len1 rfl h) rfl rfl rfl)) rfl)) (lasts_fz _) (lasts_fz _)) rfl rfl (by decide) (.inl rfl)) (dss_cons (ds_set (de_tup (da_cons de_int (lasts_C _) (da_cons de_int (lasts_C _) (da_cons (de_fz (de_callTy c_tuple (da_cons (de_fz (de_slice (de_fz (de_call C__law_tuples (da_cons de_int (lasts_C _) (da_cons de_int (lasts_C _) da_nil rfl) rfl) (fun _ _ _ h => semArgs_len1 rfl h) rfl rfl rfl)) (lasts_fz _) True.intro (And.intro de_int (lasts_C _)))) (lasts_fz _) da_nil rfl) rfl (G _ (by decide)) (by first | rfl | decide +kernel) (by decide) rfl rfl)) (lasts_fz _) da_nil rfl) rfl) rfl)) rfl rfl (by decide) (.inl rfl)) (dss_cons (ds_set (de_op o_add (de_nh (i := 17) rfl (by first | exact Or.inl rfl | exact Or.inr (Or.inl rfl) | exact Or.inr (Or.inr rfl)) rfl rfl) (de_fz (de_comp (own := [("way", 20)]) rfl (di_range1 (da_cons de_int (lasts_C _) da_nil rfl) rfl (G _ (by decide)) rfl) (by first | rfl | decide +kernel) rfl rfl dc_nil (de_fz (de_call C__law_asked (da_cons (de_nv (i := 20) rfl (by first | exact Or.inl rfl | exact Or.inr (Or.inl rfl) | exact Or.inr (Or.inr rfl)) rfl rfl) (lasts_nv 20) (da_cons (de_fz (de_tup (da_cons de_int (lasts_C _) (da_cons de_int (lasts_C _) (da_cons (de_fz (de_tup (da_cons de_int (lasts_C _) (da_cons de_int (lasts_C _) (da_cons de_int (lasts_C _) (da_cons de_int (lasts_C _) da_nil rfl) rfl) rfl) rfl))) (lasts_fz _) da_nil rfl) rfl) rfl))) (lasts_fz _) (da_cons (de_nv (i := 18) rfl (by first | exact Or.inl rfl | exact Or.inr (Or.inl rfl) | exact Or.inr (Or.inr rfl)) rfl rfl) (lasts_nv 18) (da_cons (de_fz (de_tup da_nil)) (lasts_fz _) da_nil rfl) rfl) rfl) rfl) (fun _ _ _ h => semArgs_len1 rfl h) rfl rfl rfl)) rfl)) (lasts_nh 17) (lasts_fz _)) rfl rfl (by decide) (.inl rfl)) (dss_cons (ds_ret (de_cmp o_eq (de_nh (i := 17) rfl (by first | exact Or.inl rfl | exact Or.inr (Or.inl rfl) | exact Or.inr (Or.inr rfl)) rfl rfl) (de_fz (de_op o_add (de_fz (de_op o_add (de_fz (de_op o_add (de_fz (de_op o_mul (de_fz (de_lst (da_cons de_str (lasts_C _) da_nil rfl))) de_int (lasts_fz _) (lasts_C _))) (de_fz (de_op o_mul (de_fz (de_lst (da_cons de_str (lasts_C _) da_nil rfl))) de_int (lasts_fz _) (lasts_C _))) (lasts_fz _) (lasts_fz _))) (de_fz (de_op o_mul (de_fz (de_lst (da_cons de_str (lasts_C _) da_nil rfl))) de_int (lasts_fz _) (lasts_C _))) (lasts_fz _) (lasts_fz _))) (de_fz (de_op o_mul (de_fz (de_lst (da_cons de_str (lasts_C _) da_nil rfl))) de_int (lasts_fz _) (lasts_C _))) (lasts_fz _) (lasts_fz _))) (lasts_nh 17) (lasts_fz _) rfl)) dss_nil)))))))))))))))))))))))
/-! _law_kind -/
abbrev t__law_kind : Stmt := top 41
theorem sc__law_kind : FnScope ["error", "names", "found"] ["error"] (defScope t__law_kind) := ⟨rfl, rfl, rfl, by decide +kernel, rfl, by decide +kernel, by decide +kernel⟩
def l__law_kind : SemS := semRet (semIf (semCmpB pEq (fz (semMethT "list" pCount (semNh 2) [.one (semC (.bool true))])) (semC (.int 1))) (semBin pAdd (semC (.str "!")) (fz (semBin pSub1 (semNh 1) (fz (semMethT "list" pIndex (semNh 2) [.one (semC (.bool true))]))))) (semC (.str "!other")))
theorem dl__law_kind {T : Tx} {k : Nat} {p : Pos} : DS T ["error", "names", "found"] (defScope t__law_kind) false [] k ((defBody t__law_kind).getD 3 (.Pass p)) l__law_kind :=
  ds_ret (de_if (dt_cmp o_eq (de_fz (meth_args pa_list EV.slot_list_count EV.ty_list_count m_count (de_nh (i := 2) rfl (by first | exact Or.inl rfl | exact Or.inr (Or.inl rfl) | exact Or.inr (Or.inr rfl)) rfl rfl) (lasts_nh 2) (da_cons de_bl (lasts_C _) da_nil rfl) rfl rfl rfl (by decide) (by decide))) de_int (lasts_fz _) (lasts_C _) rfl)
    (de_op o_add de_str (de_fz (de_ix o_ix (de_nh (i := 1) rfl (by first | exact Or.inl rfl | exact Or.inr (Or.inl rfl) | exact Or.inr (Or.inr rfl)) rfl rfl) (de_fz (meth_args pa_list EV.slot_list_index EV.ty_list_index m_index (de_nh (i := 2) rfl (by first | exact Or.inl rfl | exact Or.inr (Or.inl rfl) | exact Or.inr (Or.inr rfl)) rfl rfl) (lasts_nh 2) (da_cons de_bl (lasts_C _) da_nil rfl) rfl rfl rfl (by decide) (by decide))) (lasts_nh 1) (lasts_fz _) rfl)) (lasts_C _) (lasts_fz _)) de_str)
theorem e__law_kind : ∀ j, j < 8 → ∃ s', l__law_kind [.un, .own (.lst (kindNames.map PyData.str)), .own (.lst ((oneHot j).map PyData.bool))] = .rt (.val (.str ("!" ++ kindNames.getD j ""))) s' := by
  intro j hj
  match j, hj with
  | 0, _ => exact ⟨_, by rfl⟩
  | 1, _ => exact ⟨_, by rfl⟩
  | 2, _ => exact ⟨_, by rfl⟩
  | 3, _ => exact ⟨_, by rfl⟩
  | 4, _ => exact ⟨_, by rfl⟩
  | 5, _ => exact ⟨_, by rfl⟩
  | 6, _ => exact ⟨_, by rfl⟩
  | 7, _ => exact ⟨_, by rfl⟩
theorem k__law_kind {T : Tx} {k : Nat} (Cs : List Addr) (G : T.mg "isinstance" = none) (h0 : T.mg "NotOperation" = some (.ref (Cs.getD 0 0))) (h1 : T.mg "NotTerm" = some (.ref (Cs.getD 1 0))) (h2 : T.mg "NotRelation" = some (.ref (Cs.getD 2 0))) (h3 : T.mg "NotDemand" = some (.ref (Cs.getD 3 0)))
    (h4 : T.mg "NotPaper" = some (.ref (Cs.getD 4 0))) (h5 : T.mg "BadNumber" = some (.ref (Cs.getD 5 0))) (h6 : T.mg "NoAnswer" = some (.ref (Cs.getD 6 0))) (h7 : T.mg "TooLarge" = some (.ref (Cs.getD 7 0))) :
    ∀ (X : Cx) (p : Addr × Obj) (cls : Value), Fx T ["error", "names", "found"] (defScope t__law_kind) false true k X (fun _ _ _ _ => False) → p ∈ X.pn → Zc cls none p.2 → (∃ vs, p.2.data = .fields vs) →
      ∃ t, PSs X (defBody t__law_kind) t ∧ ∀ z H Q, KindV T.K Cs kindNames cls z → (∀ H', Same H H' → Q (.str z) H') → t { nx := fun _ H' => Q .non H', rt := Q } (L2.start ["error", "names", "found"] [.ref p.1]) H := by
  intro X p cls F hp hz hf
  by_cases hc : ∃ D, cls = .ref D ∧ ExcC T.K D
  case neg => exact ⟨_, false_pss, fun z H Q ⟨D, j, e, E, _⟩ => absurd ⟨D, e, E⟩ hc⟩
  obtain ⟨D, rfl, E⟩ := hc
  have hN : X.N = (["error", "names", "found"] : List Str) := F.eN
  have E' : ExcC X.K D := by rw [F.eK]; exact E
  have gl : ∀ {x : Str}, (defScope t__law_kind).names.lookup x = some .globalImplicit → Gl X x := fun h => gl_of F h
  have is : ∀ {c : Str} {C : Addr} {pp np cp pos : Pos}, T.mg c = some (.ref C) → (defScope t__law_kind).names.lookup c = some .globalImplicit → (c == ("__debug__" : Str)) = false → PE X (.Call (.Name "isinstance" pp) [.Name "error" np, .Name c cp] [] pos) (tIsE D p.1 X.K 0 C) :=
    fun hm hg hd => pe_isE (oe := p.2) E' hp hz hf (gl rfl) (by rw [F.em]; exact G) (by rw [hN]; rfl) (by show Vis X.env.scope _; rw [F.es]; exact Or.inl rfl) rfl rfl (gl hg) (by rw [F.em]; exact hm) hd
  have nd : X.N.Nodup := by rw [hN]; exact F.nd
  have lc : ∀ {x : Str}, isLoc (defScope t__law_kind) x = true → Loc X.env.scope x := fun {x} h => by
    have h' : isLoc X.env.scope x = true := by rw [F.es]; exact h
    exact loc_of h'
  have lk : ∀ {x : Str}, (defScope t__law_kind).names.lookup x = some .local → X.fn x = true ∨ X.env.scope.names.lookup x = some .local := fun h => .inr (by rw [F.es]; exact h)
  have a : PSs X (defBody t__law_kind) _ := pss_cons (ps_set (i := 1) nd (by rw [hN]; rfl) (lc rfl) (pe_lst (pa_cons pe_str (pa_cons pe_str (pa_cons pe_str (pa_cons pe_str (pa_cons pe_str (pa_cons pe_str (pa_cons pe_str (pa_cons pe_str pa_nil))))))))) rfl (lk rfl))
    (pss_cons (ps_set (i := 2) nd (by rw [hN]; rfl) (lc rfl) (pe_lst (pa_cons (is h0 rfl rfl) (pa_cons (is h1 rfl rfl) (pa_cons (is h2 rfl rfl) (pa_cons (is h3 rfl rfl) pa_nil))))) rfl (lk rfl))
    (pss_cons (ps_set (i := 2) nd (by rw [hN]; rfl) (lc rfl) (pe_op op_cat (pe_var (i := 2) (by rw [hN]; rfl) (by show Vis X.env.scope _; rw [F.es]; exact Or.inl rfl) rfl rfl) (pe_lst (pa_cons (is h4 rfl rfl) (pa_cons (is h5 rfl rfl) (pa_cons (is h6 rfl rfl) (pa_cons (is h7 rfl rfl) pa_nil)))))) rfl (lk rfl))
    (pss_one (dl__law_kind (T := T) (k := k) (p := ⟨0, 0, 0, 0⟩) X _ [] F))))
  refine ⟨_, a, fun z H Q ⟨D', j, e, E2, hj, hk, hz'⟩ hQ => ?_⟩
  cases e
  rw [F.eK]
  exact kind_reads (T := T) (kv := KindV T.K Cs kindNames) rfl hk (by rw [hz']; exact e__law_kind j hj) hQ

end LW
end
section
set_option Elab.async false
set_option linter.all false
set_option maxRecDepth 100000
set_option autoImplicit false
set_option maxHeartbeats 4000000
namespace LW
open PySem PySem.Spec PyProof.Rows L2 EV

def fa0 : List He.Fa := [.glo "_law_number", .glo "_law_draws", .glo "_law_next", .glo "_law_more", .glo "tuples_for", .glo "is_size", .glo "is_operation", .glo "check_operation", .glo "is_row_of", .glo "is_relation", .glo "check_relation", .glo "check_one_k", .glo "check_asked", .glo "power_of", .glo "choices", .glo "index_of", .glo "made_of", .glo "first_broken", .glo "broken_rows", .glo "keeps", .glo "_law_pick", .glo "_law_tuples", .glo "_law_known", .glo "_law_any", .glo "_law_operation", .glo "_law_choices", .glo "_law_index", .glo "_law_value", .glo "_law_made_of", .glo "_law_closed"]
def fa1 : List He.Fa := [.glo "_law_broken", .glo "are_broken", .glo "_law_asked", .glo "law", .glo "_law_kind", .free "int", .free "range", .free "min", .int "MOST_TUPLES" 81, .free "all", .free "len", .int "FEWEST" 2, .int "MOST" 3, .glo "NotOperation", .exc "NotOperation", .free "zip", .int "MOST_ROWS" 4096, .int "MOST_WIDTH" 27, .glo "NotRelation", .exc "NotRelation", .glo "BadNumber", .exc "BadNumber", .int "MOST_LOOKS" 300000, .free "tuple", .glo "TooLarge", .exc "TooLarge", .free "max", .free "sum", .free "dict", .free "sorted"]
def fa2 : List He.Fa := [.free "repr", .glo "NotTerm", .glo "NotDemand", .glo "NotPaper", .glo "NoAnswer", .glo "MakeError", .free "isinstance"]
def fa : List He.Fa := fa0 ++ (fa1 ++ (fa2))
def fn0 : List He.DefD := [defD "_law_number" t__law_number, defD "_law_draws" t__law_draws, defD "_law_next" t__law_next, defD "_law_more" t__law_more, defD "tuples_for" t_tuples_for, defD "is_size" t_is_size, defD "is_operation" t_is_operation, defD "check_operation" t_check_operation, defD "is_row_of" t_is_row_of, defD "is_relation" t_is_relation, defD "check_relation" t_check_relation, defD "check_one_k" t_check_one_k, defD "check_asked" t_check_asked, defD "power_of" t_power_of, defD "choices" t_choices, defD "index_of" t_index_of, defD "made_of" t_made_of, defD "first_broken" t_first_broken, defD "broken_rows" t_broken_rows, defD "keeps" t_keeps, defD "_law_pick" t__law_pick, defD "_law_tuples" t__law_tuples, defD "_law_known" t__law_known, defD "_law_any" t__law_any, defD "_law_operation" t__law_operation, defD "_law_choices" t__law_choices, defD "_law_index" t__law_index, defD "_law_value" t__law_value, defD "_law_made_of" t__law_made_of, defD "_law_closed" t__law_closed]
def fn1 : List He.DefD := [defD "_law_broken" t__law_broken, defD "are_broken" t_are_broken, defD "_law_asked" t__law_asked, defD "law" t_law, defD "_law_kind" t__law_kind]
def fn : List He.DefD := fn0 ++ (fn1)
def ex (K : PySem.W.Frag) : Bool := kindB "MakeError" kindCls K
def loose0 : List Str := ["MakeError", "NotOperation", "NotTerm", "NotRelation", "NotDemand", "NotPaper", "BadNumber", "NoAnswer", "TooLarge", "FEWEST", "MOST", "MOST_TUPLES", "tuples_for", "is_size", "is_operation", "check_operation", "index_of", "MOST_WIDTH", "MOST_ROWS", "MOST_LOOKS", "is_row_of", "is_relation", "check_relation", "check_one_k", "made_of", "power_of", "choices", "first_broken", "check_asked", "broken_rows"]
def loose1 : List Str := ["keeps", "are_broken", "_law_number", "_law_draws", "_law_next", "_law_more", "_law_pick", "_law_kind", "_law_tuples", "_law_index", "_law_value", "_law_any", "_law_known", "_law_operation", "_law_makers", "_law_made_of", "_law_choices", "_law_closed", "_law_broken", "_law_asked"]
def loose : List Str := loose0 ++ (loose1)
section
variable {T : Tx} {h : Heap}
theorem c__law_kind (c : SaysZ fa fn ex T.K) (X : T.K.In h) (Gn : h.Ns mainGlobals T.mg) : CallK T 1 "_law_kind" (KindV T.K (kindCls.map (He.ga T.K)) kindNames) := by
  obtain ⟨fd, F⟩ := c.d.def_ 34 (d := defD "_law_kind" t__law_kind) rfl
  exact callK_of (k := 0) F sc__law_kind (He.glo_ok X Gn (c.d.fact 34 (f := .glo "_law_kind") rfl)) (FunD.bindsN F fun _ _ _ _ _ _ us hl => match us, hl with | [_], _ => rfl) (k__law_kind (kindCls.map (He.ga T.K)) (He.free_ok X Gn (c.d.fact 66 (f := .free "isinstance") rfl)) (He.glo_ok X Gn (c.d.fact 43 (f := .glo "NotOperation") rfl)) (He.glo_ok X Gn (c.d.fact 61 (f := .glo "NotTerm") rfl)) (He.glo_ok X Gn (c.d.fact 48 (f := .glo "NotRelation") rfl)) (He.glo_ok X Gn (c.d.fact 62 (f := .glo "NotDemand") rfl)) (He.glo_ok X Gn (c.d.fact 63 (f := .glo "NotPaper") rfl)) (He.glo_ok X Gn (c.d.fact 50 (f := .glo "BadNumber") rfl)) (He.glo_ok X Gn (c.d.fact 64 (f := .glo "NoAnswer") rfl)) (He.glo_ok X Gn (c.d.fact 54 (f := .glo "TooLarge") rfl)))
theorem kE (c : SaysZ fa fn ex T.K) (X : T.K.In h) (Gn : h.Ns mainGlobals T.mg) : TryK T "MakeError" (KindV T.K (kindCls.map (He.ga T.K)) kindNames) kindOf :=
  tryK_of rfl c.more (He.glo_ok X Gn (c.d.fact 65 (f := .glo "MakeError") rfl)) fun j hj => match j, hj with
    | 0, _ => He.glo_ok X Gn (c.d.fact 43 (f := .glo "NotOperation") rfl)
    | 1, _ => He.glo_ok X Gn (c.d.fact 61 (f := .glo "NotTerm") rfl)
    | 2, _ => He.glo_ok X Gn (c.d.fact 48 (f := .glo "NotRelation") rfl)
    | 3, _ => He.glo_ok X Gn (c.d.fact 62 (f := .glo "NotDemand") rfl)
    | 4, _ => He.glo_ok X Gn (c.d.fact 63 (f := .glo "NotPaper") rfl)
    | 5, _ => He.glo_ok X Gn (c.d.fact 50 (f := .glo "BadNumber") rfl)
    | 6, _ => He.glo_ok X Gn (c.d.fact 64 (f := .glo "NoAnswer") rfl)
    | 7, _ => He.glo_ok X Gn (c.d.fact 54 (f := .glo "TooLarge") rfl)
theorem c__law_number (c : SaysZ fa fn ex T.K) (X : T.K.In h) (Gn : h.Ns mainGlobals T.mg) : CallE T 1 "_law_number" 1 cs__law_number := by
  obtain ⟨fd, F⟩ := c.d.def_ 0 (d := defD "_law_number" t__law_number) rfl
  exact callE_of (FunD.fnE F sc__law_number (d__law_number (k := 0) )) (Nat.le_refl _) (He.glo_ok X Gn (c.d.fact 0 (f := .glo "_law_number") rfl)) F.kp (FunD.bindsN (ps := ["cell"]) F fun _ _ _ _ _ _ us hl => match us, hl with | [_], _ => rfl) rfl
theorem c__law_draws (c : SaysZ fa fn ex T.K) (X : T.K.In h) (Gn : h.Ns mainGlobals T.mg) : CallE T 2 "_law_draws" 1 cs__law_draws := by
  obtain ⟨fd, F⟩ := c.d.def_ 1 (d := defD "_law_draws" t__law_draws) rfl
  exact callE_of (FunD.fnE F sc__law_draws (d__law_draws (k := 1) (allN_cons (He.free_ok X Gn (c.d.fact 35 (f := .free "int") rfl)) (allN_cons (He.free_ok X Gn (c.d.fact 36 (f := .free "range") rfl)) allN_nil)) ((c__law_number c X Gn).mono (by omega)))) (Nat.le_refl _) (He.glo_ok X Gn (c.d.fact 1 (f := .glo "_law_draws") rfl)) F.kp (FunD.bindsN (ps := ["script"]) F fun _ _ _ _ _ _ us hl => match us, hl with | [_], _ => rfl) rfl
theorem c__law_next (c : SaysZ fa fn ex T.K) (X : T.K.In h) (Gn : h.Ns mainGlobals T.mg) : CallE T 1 "_law_next" 1 cs__law_next := by
  obtain ⟨fd, F⟩ := c.d.def_ 2 (d := defD "_law_next" t__law_next) rfl
  exact callE_of (FunD.fnE F sc__law_next (d__law_next (k := 0) )) (Nat.le_refl _) (He.glo_ok X Gn (c.d.fact 2 (f := .glo "_law_next") rfl)) F.kp (FunD.bindsN (ps := ["draws"]) F fun _ _ _ _ _ _ us hl => match us, hl with | [_], _ => rfl) rfl
theorem c__law_more (c : SaysZ fa fn ex T.K) (X : T.K.In h) (Gn : h.Ns mainGlobals T.mg) : CallE T 2 "_law_more" 2 cs__law_more := by
  obtain ⟨fd, F⟩ := c.d.def_ 3 (d := defD "_law_more" t__law_more) rfl
  exact callE_of (FunD.fnE F sc__law_more (d__law_more (k := 1) (allN_cons (He.free_ok X Gn (c.d.fact 35 (f := .free "int") rfl)) (allN_cons (He.free_ok X Gn (c.d.fact 36 (f := .free "range") rfl)) allN_nil)) ((c__law_next c X Gn).mono (by omega)))) (Nat.le_refl _) (He.glo_ok X Gn (c.d.fact 3 (f := .glo "_law_more") rfl)) F.kp (FunD.bindsN (ps := ["draws", "many"]) F fun _ _ _ _ _ _ us hl => match us, hl with | [_, _], _ => rfl) rfl
theorem c_tuples_for (c : SaysZ fa fn ex T.K) (X : T.K.In h) (Gn : h.Ns mainGlobals T.mg) : CallE T 1 "tuples_for" 2 cs_tuples_for := by
  obtain ⟨fd, F⟩ := c.d.def_ 4 (d := defD "tuples_for" t_tuples_for) rfl
  exact callE_of (FunD.fnE F sc_tuples_for (d_tuples_for (k := 0) (allN_cons (He.free_ok X Gn (c.d.fact 37 (f := .free "min") rfl)) (allN_cons (He.free_ok X Gn (c.d.fact 36 (f := .free "range") rfl)) allN_nil)) (let ⟨t, e⟩ := He.int_ok X Gn (c.d.fact 38 (f := .int "MOST_TUPLES" 81) rfl); ⟨_, .int _, e, ⟨t, rfl⟩, .int _⟩))) (Nat.le_refl _) (He.glo_ok X Gn (c.d.fact 4 (f := .glo "tuples_for") rfl)) F.kp (FunD.bindsN (ps := ["k", "n"]) F fun _ _ _ _ _ _ us hl => match us, hl with | [_, _], _ => rfl) rfl
theorem c_is_size (c : SaysZ fa fn ex T.K) (X : T.K.In h) (Gn : h.Ns mainGlobals T.mg) : CallE T 2 "is_size" 2 cs_is_size := by
  obtain ⟨fd, F⟩ := c.d.def_ 5 (d := defD "is_size" t_is_size) rfl
  exact callE_of (FunD.fnE F sc_is_size (d_is_size (k := 1) (let ⟨t, e⟩ := He.int_ok X Gn (c.d.fact 38 (f := .int "MOST_TUPLES" 81) rfl); ⟨_, .int _, e, ⟨t, rfl⟩, .int _⟩) ((c_tuples_for c X Gn).mono (by omega)))) (Nat.le_refl _) (He.glo_ok X Gn (c.d.fact 5 (f := .glo "is_size") rfl)) F.kp (FunD.bindsN (ps := ["k", "n"]) F fun _ _ _ _ _ _ us hl => match us, hl with | [_, _], _ => rfl) rfl
theorem c_is_operation (c : SaysZ fa fn ex T.K) (X : T.K.In h) (Gn : h.Ns mainGlobals T.mg) : CallE T 3 "is_operation" 1 cs_is_operation := by
  obtain ⟨fd, F⟩ := c.d.def_ 6 (d := defD "is_operation" t_is_operation) rfl
  exact callE_of (FunD.fnE F sc_is_operation (d_is_operation (k := 2) (allN_cons (He.free_ok X Gn (c.d.fact 39 (f := .free "all") rfl)) (allN_cons (He.free_ok X Gn (c.d.fact 40 (f := .free "len") rfl)) allN_nil)) (let ⟨t, e⟩ := He.int_ok X Gn (c.d.fact 41 (f := .int "FEWEST" 2) rfl); ⟨_, .int _, e, ⟨t, rfl⟩, .int _⟩) (let ⟨t, e⟩ := He.int_ok X Gn (c.d.fact 42 (f := .int "MOST" 3) rfl); ⟨_, .int _, e, ⟨t, rfl⟩, .int _⟩) ((c_is_size c X Gn).mono (by omega)) ((c_tuples_for c X Gn).mono (by omega)))) (Nat.le_refl _) (He.glo_ok X Gn (c.d.fact 6 (f := .glo "is_operation") rfl)) F.kp (FunD.bindsN (ps := ["operation"]) F fun _ _ _ _ _ _ us hl => match us, hl with | [_], _ => rfl) rfl
theorem c_check_operation (c : SaysZ fa fn ex T.K) (X : T.K.In h) (Gn : h.Ns mainGlobals T.mg) : CallE T 4 "check_operation" 1 cs_check_operation := by
  obtain ⟨fd, F⟩ := c.d.def_ 7 (d := defD "check_operation" t_check_operation) rfl
  exact callE_of (FunD.fnE F sc_check_operation (d_check_operation (k := 3) (errE_of (He.glo_ok X Gn (c.d.fact 43 (f := .glo "NotOperation") rfl)) (c.d.fact 44 (f := .exc "NotOperation") rfl)) ((c_is_operation c X Gn).mono (by omega)))) (Nat.le_refl _) (He.glo_ok X Gn (c.d.fact 7 (f := .glo "check_operation") rfl)) F.kp (FunD.bindsN (ps := ["operation"]) F fun _ _ _ _ _ _ us hl => match us, hl with | [_], _ => rfl) rfl
theorem c_is_row_of (c : SaysZ fa fn ex T.K) (X : T.K.In h) (Gn : h.Ns mainGlobals T.mg) : CallE T 1 "is_row_of" 3 cs_is_row_of := by
  obtain ⟨fd, F⟩ := c.d.def_ 8 (d := defD "is_row_of" t_is_row_of) rfl
  exact callE_of (FunD.fnE F sc_is_row_of (d_is_row_of (k := 0) (allN_cons (He.free_ok X Gn (c.d.fact 39 (f := .free "all") rfl)) (allN_cons (He.free_ok X Gn (c.d.fact 40 (f := .free "len") rfl)) allN_nil)))) (Nat.le_refl _) (He.glo_ok X Gn (c.d.fact 8 (f := .glo "is_row_of") rfl)) F.kp (FunD.bindsN (ps := ["k", "m", "row"]) F fun _ _ _ _ _ _ us hl => match us, hl with | [_, _, _], _ => rfl) rfl
theorem c_is_relation (c : SaysZ fa fn ex T.K) (X : T.K.In h) (Gn : h.Ns mainGlobals T.mg) : CallE T 2 "is_relation" 1 cs_is_relation := by
  obtain ⟨fd, F⟩ := c.d.def_ 9 (d := defD "is_relation" t_is_relation) rfl
  exact callE_of (FunD.fnE F sc_is_relation (d_is_relation (k := 1) (allN_cons (He.free_ok X Gn (c.d.fact 39 (f := .free "all") rfl)) (allN_cons (He.free_ok X Gn (c.d.fact 40 (f := .free "len") rfl)) (allN_cons (He.free_ok X Gn (c.d.fact 45 (f := .free "zip") rfl)) allN_nil))) (let ⟨t, e⟩ := He.int_ok X Gn (c.d.fact 41 (f := .int "FEWEST" 2) rfl); ⟨_, .int _, e, ⟨t, rfl⟩, .int _⟩) (let ⟨t, e⟩ := He.int_ok X Gn (c.d.fact 42 (f := .int "MOST" 3) rfl); ⟨_, .int _, e, ⟨t, rfl⟩, .int _⟩) (let ⟨t, e⟩ := He.int_ok X Gn (c.d.fact 46 (f := .int "MOST_ROWS" 4096) rfl); ⟨_, .int _, e, ⟨t, rfl⟩, .int _⟩) (let ⟨t, e⟩ := He.int_ok X Gn (c.d.fact 47 (f := .int "MOST_WIDTH" 27) rfl); ⟨_, .int _, e, ⟨t, rfl⟩, .int _⟩) ((c_is_row_of c X Gn).mono (by omega)))) (Nat.le_refl _) (He.glo_ok X Gn (c.d.fact 9 (f := .glo "is_relation") rfl)) F.kp (FunD.bindsN (ps := ["relation"]) F fun _ _ _ _ _ _ us hl => match us, hl with | [_], _ => rfl) rfl
theorem c_check_relation (c : SaysZ fa fn ex T.K) (X : T.K.In h) (Gn : h.Ns mainGlobals T.mg) : CallE T 3 "check_relation" 1 cs_check_relation := by
  obtain ⟨fd, F⟩ := c.d.def_ 10 (d := defD "check_relation" t_check_relation) rfl
  exact callE_of (FunD.fnE F sc_check_relation (d_check_relation (k := 2) (errE_of (He.glo_ok X Gn (c.d.fact 48 (f := .glo "NotRelation") rfl)) (c.d.fact 49 (f := .exc "NotRelation") rfl)) ((c_is_relation c X Gn).mono (by omega)))) (Nat.le_refl _) (He.glo_ok X Gn (c.d.fact 10 (f := .glo "check_relation") rfl)) F.kp (FunD.bindsN (ps := ["relation"]) F fun _ _ _ _ _ _ us hl => match us, hl with | [_], _ => rfl) rfl
theorem c_check_one_k (c : SaysZ fa fn ex T.K) (X : T.K.In h) (Gn : h.Ns mainGlobals T.mg) : CallE T 1 "check_one_k" 2 cs_check_one_k := by
  obtain ⟨fd, F⟩ := c.d.def_ 11 (d := defD "check_one_k" t_check_one_k) rfl
  exact callE_of (FunD.fnE F sc_check_one_k (d_check_one_k (k := 0) (errE_of (He.glo_ok X Gn (c.d.fact 50 (f := .glo "BadNumber") rfl)) (c.d.fact 51 (f := .exc "BadNumber") rfl)))) (Nat.le_refl _) (He.glo_ok X Gn (c.d.fact 11 (f := .glo "check_one_k") rfl)) F.kp (FunD.bindsN (ps := ["one", "other"]) F fun _ _ _ _ _ _ us hl => match us, hl with | [_, _], _ => rfl) rfl
theorem c_check_asked (c : SaysZ fa fn ex T.K) (X : T.K.In h) (Gn : h.Ns mainGlobals T.mg) : CallE T 5 "check_asked" 2 cs_check_asked := by
  obtain ⟨fd, F⟩ := c.d.def_ 12 (d := defD "check_asked" t_check_asked) rfl
  exact callE_of (FunD.fnE F sc_check_asked (d_check_asked (k := 4) ((c_check_operation c X Gn).mono (by omega)) ((c_check_relation c X Gn).mono (by omega)) ((c_check_one_k c X Gn).mono (by omega)))) (Nat.le_refl _) (He.glo_ok X Gn (c.d.fact 12 (f := .glo "check_asked") rfl)) F.kp (FunD.bindsN (ps := ["operation", "relation"]) F fun _ _ _ _ _ _ us hl => match us, hl with | [_, _], _ => rfl) rfl
theorem c_power_of (c : SaysZ fa fn ex T.K) (X : T.K.In h) (Gn : h.Ns mainGlobals T.mg) : CallE T 1 "power_of" 2 cs_power_of := by
  obtain ⟨fd, F⟩ := c.d.def_ 13 (d := defD "power_of" t_power_of) rfl
  exact callE_of (FunD.fnE F sc_power_of (d_power_of (k := 0) (allN_cons (He.free_ok X Gn (c.d.fact 37 (f := .free "min") rfl)) (allN_cons (He.free_ok X Gn (c.d.fact 36 (f := .free "range") rfl)) allN_nil)) (let ⟨t, e⟩ := He.int_ok X Gn (c.d.fact 52 (f := .int "MOST_LOOKS" 300000) rfl); ⟨_, .int _, e, ⟨t, rfl⟩, .int _⟩))) (Nat.le_refl _) (He.glo_ok X Gn (c.d.fact 13 (f := .glo "power_of") rfl)) F.kp (FunD.bindsN (ps := ["number", "n"]) F fun _ _ _ _ _ _ us hl => match us, hl with | [_, _], _ => rfl) rfl
theorem c_choices (c : SaysZ fa fn ex T.K) (X : T.K.In h) (Gn : h.Ns mainGlobals T.mg) : CallE T 1 "choices" 2 cs_choices := by
  obtain ⟨fd, F⟩ := c.d.def_ 14 (d := defD "choices" t_choices) rfl
  exact callE_of (FunD.fnE F sc_choices (d_choices (k := 0) (allN_cons (He.free_ok X Gn (c.d.fact 36 (f := .free "range") rfl)) allN_nil))) (Nat.le_refl _) (He.glo_ok X Gn (c.d.fact 14 (f := .glo "choices") rfl)) F.kp (FunD.bindsN (ps := ["rows", "n"]) F fun _ _ _ _ _ _ us hl => match us, hl with | [_, _], _ => rfl) rfl
theorem c_index_of (c : SaysZ fa fn ex T.K) (X : T.K.In h) (Gn : h.Ns mainGlobals T.mg) : CallE T 1 "index_of" 2 cs_index_of := by
  obtain ⟨fd, F⟩ := c.d.def_ 15 (d := defD "index_of" t_index_of) rfl
  exact callE_of (FunD.fnE F sc_index_of (d_index_of (k := 0) )) (Nat.le_refl _) (He.glo_ok X Gn (c.d.fact 15 (f := .glo "index_of") rfl)) F.kp (FunD.bindsN (ps := ["k", "row"]) F fun _ _ _ _ _ _ us hl => match us, hl with | [_, _], _ => rfl) rfl
theorem c_made_of (c : SaysZ fa fn ex T.K) (X : T.K.In h) (Gn : h.Ns mainGlobals T.mg) : CallE T 2 "made_of" 2 cs_made_of := by
  obtain ⟨fd, F⟩ := c.d.def_ 16 (d := defD "made_of" t_made_of) rfl
  exact callE_of (FunD.fnE F sc_made_of (d_made_of (k := 1) (allN_cons (He.free_ok X Gn (c.d.fact 53 (f := .free "tuple") rfl)) (allN_cons (He.free_ok X Gn (c.d.fact 45 (f := .free "zip") rfl)) allN_nil)) ((c_index_of c X Gn).mono (by omega)))) (Nat.le_refl _) (He.glo_ok X Gn (c.d.fact 16 (f := .glo "made_of") rfl)) F.kp (FunD.bindsN (ps := ["operation", "rows"]) F fun _ _ _ _ _ _ us hl => match us, hl with | [_, _], _ => rfl) rfl
theorem c_first_broken (c : SaysZ fa fn ex T.K) (X : T.K.In h) (Gn : h.Ns mainGlobals T.mg) : CallE T 3 "first_broken" 2 cs_first_broken := by
  obtain ⟨fd, F⟩ := c.d.def_ 17 (d := defD "first_broken" t_first_broken) rfl
  exact callE_of (FunD.fnE F sc_first_broken (d_first_broken (k := 2) (allN_cons (He.free_ok X Gn (c.d.fact 40 (f := .free "len") rfl)) allN_nil) (let ⟨t, e⟩ := He.int_ok X Gn (c.d.fact 52 (f := .int "MOST_LOOKS" 300000) rfl); ⟨_, .int _, e, ⟨t, rfl⟩, .int _⟩) (errE_of (He.glo_ok X Gn (c.d.fact 54 (f := .glo "TooLarge") rfl)) (c.d.fact 55 (f := .exc "TooLarge") rfl)) ((c_power_of c X Gn).mono (by omega)) ((c_choices c X Gn).mono (by omega)) ((c_made_of c X Gn).mono (by omega)))) (Nat.le_refl _) (He.glo_ok X Gn (c.d.fact 17 (f := .glo "first_broken") rfl)) F.kp (FunD.bindsN (ps := ["operation", "relation"]) F fun _ _ _ _ _ _ us hl => match us, hl with | [_, _], _ => rfl) rfl
theorem c_broken_rows (c : SaysZ fa fn ex T.K) (X : T.K.In h) (Gn : h.Ns mainGlobals T.mg) : CallE T 6 "broken_rows" 2 cs_broken_rows := by
  obtain ⟨fd, F⟩ := c.d.def_ 18 (d := defD "broken_rows" t_broken_rows) rfl
  exact callE_of (FunD.fnE F sc_broken_rows (d_broken_rows (k := 5) ((c_check_asked c X Gn).mono (by omega)) ((c_first_broken c X Gn).mono (by omega)))) (Nat.le_refl _) (He.glo_ok X Gn (c.d.fact 18 (f := .glo "broken_rows") rfl)) F.kp (FunD.bindsN (ps := ["operation", "relation"]) F fun _ _ _ _ _ _ us hl => match us, hl with | [_, _], _ => rfl) rfl
theorem c_keeps (c : SaysZ fa fn ex T.K) (X : T.K.In h) (Gn : h.Ns mainGlobals T.mg) : CallE T 7 "keeps" 2 cs_keeps := by
  obtain ⟨fd, F⟩ := c.d.def_ 19 (d := defD "keeps" t_keeps) rfl
  exact callE_of (FunD.fnE F sc_keeps (d_keeps (k := 6) ((c_broken_rows c X Gn).mono (by omega)))) (Nat.le_refl _) (He.glo_ok X Gn (c.d.fact 19 (f := .glo "keeps") rfl)) F.kp (FunD.bindsN (ps := ["operation", "relation"]) F fun _ _ _ _ _ _ us hl => match us, hl with | [_, _], _ => rfl) rfl
theorem c__law_pick (c : SaysZ fa fn ex T.K) (X : T.K.In h) (Gn : h.Ns mainGlobals T.mg) : CallE T 2 "_law_pick" 2 cs__law_pick := by
  obtain ⟨fd, F⟩ := c.d.def_ 20 (d := defD "_law_pick" t__law_pick) rfl
  exact callE_of (FunD.fnE F sc__law_pick (d__law_pick (k := 1) (allN_cons (He.free_ok X Gn (c.d.fact 35 (f := .free "int") rfl)) (allN_cons (He.free_ok X Gn (c.d.fact 40 (f := .free "len") rfl)) allN_nil)) ((c__law_next c X Gn).mono (by omega)))) (Nat.le_refl _) (He.glo_ok X Gn (c.d.fact 20 (f := .glo "_law_pick") rfl)) F.kp (FunD.bindsN (ps := ["draws", "some"]) F fun _ _ _ _ _ _ us hl => match us, hl with | [_, _], _ => rfl) rfl
theorem c__law_tuples (c : SaysZ fa fn ex T.K) (X : T.K.In h) (Gn : h.Ns mainGlobals T.mg) : CallE T 1 "_law_tuples" 2 cs__law_tuples := by
  obtain ⟨fd, F⟩ := c.d.def_ 21 (d := defD "_law_tuples" t__law_tuples) rfl
  exact callE_of (FunD.fnE F sc__law_tuples (d__law_tuples (k := 0) (allN_cons (He.free_ok X Gn (c.d.fact 36 (f := .free "range") rfl)) allN_nil))) (Nat.le_refl _) (He.glo_ok X Gn (c.d.fact 21 (f := .glo "_law_tuples") rfl)) F.kp (FunD.bindsN (ps := ["k", "n"]) F fun _ _ _ _ _ _ us hl => match us, hl with | [_, _], _ => rfl) rfl
theorem c__law_known (c : SaysZ fa fn ex T.K) (X : T.K.In h) (Gn : h.Ns mainGlobals T.mg) : CallE T 3 "_law_known" 2 cs__law_known := by
  obtain ⟨fd, F⟩ := c.d.def_ 22 (d := defD "_law_known" t__law_known) rfl
  exact callE_of (FunD.fnE F sc__law_known (d__law_known (k := 2) (allN_cons (He.free_ok X Gn (c.d.fact 35 (f := .free "int") rfl)) (allN_cons (He.free_ok X Gn (c.d.fact 40 (f := .free "len") rfl)) (allN_cons (He.free_ok X Gn (c.d.fact 56 (f := .free "max") rfl)) (allN_cons (He.free_ok X Gn (c.d.fact 37 (f := .free "min") rfl)) (allN_cons (He.free_ok X Gn (c.d.fact 57 (f := .free "sum") rfl)) (allN_cons (He.free_ok X Gn (c.d.fact 53 (f := .free "tuple") rfl)) allN_nil)))))) ((c__law_pick c X Gn).mono (by omega)) ((c__law_next c X Gn).mono (by omega)) ((c__law_tuples c X Gn).mono (by omega)))) (Nat.le_refl _) (He.glo_ok X Gn (c.d.fact 22 (f := .glo "_law_known") rfl)) F.kp (FunD.bindsN (ps := ["draws", "k"]) F fun _ _ _ _ _ _ us hl => match us, hl with | [_, _], _ => rfl) rfl
theorem c__law_any (c : SaysZ fa fn ex T.K) (X : T.K.In h) (Gn : h.Ns mainGlobals T.mg) : CallE T 2 "_law_any" 3 cs__law_any := by
  obtain ⟨fd, F⟩ := c.d.def_ 23 (d := defD "_law_any" t__law_any) rfl
  exact callE_of (FunD.fnE F sc__law_any (d__law_any (k := 1) (allN_cons (He.free_ok X Gn (c.d.fact 35 (f := .free "int") rfl)) (allN_cons (He.free_ok X Gn (c.d.fact 53 (f := .free "tuple") rfl)) allN_nil)) ((c__law_tuples c X Gn).mono (by omega)) ((c__law_next c X Gn).mono (by omega)))) (Nat.le_refl _) (He.glo_ok X Gn (c.d.fact 23 (f := .glo "_law_any") rfl)) F.kp (FunD.bindsN (ps := ["draws", "k", "n"]) F fun _ _ _ _ _ _ us hl => match us, hl with | [_, _, _], _ => rfl) rfl
theorem c__law_operation (c : SaysZ fa fn ex T.K) (X : T.K.In h) (Gn : h.Ns mainGlobals T.mg) : CallE T 4 "_law_operation" 2 cs__law_operation := by
  obtain ⟨fd, F⟩ := c.d.def_ 24 (d := defD "_law_operation" t__law_operation) rfl
  exact callE_of (FunD.fnE F sc__law_operation (d__law_operation (k := 3) (allN_cons (He.free_ok X Gn (c.d.fact 35 (f := .free "int") rfl)) allN_nil) ((c__law_next c X Gn).mono (by omega)) ((c__law_known c X Gn).mono (by omega)) ((c__law_any c X Gn).mono (by omega)) ((c__law_pick c X Gn).mono (by omega)))) (Nat.le_refl _) (He.glo_ok X Gn (c.d.fact 24 (f := .glo "_law_operation") rfl)) F.kp (FunD.bindsN (ps := ["draws", "k"]) F fun _ _ _ _ _ _ us hl => match us, hl with | [_, _], _ => rfl) rfl
theorem c__law_choices (c : SaysZ fa fn ex T.K) (X : T.K.In h) (Gn : h.Ns mainGlobals T.mg) : CallE T 1 "_law_choices" 2 cs__law_choices := by
  obtain ⟨fd, F⟩ := c.d.def_ 25 (d := defD "_law_choices" t__law_choices) rfl
  exact callE_of (FunD.fnE F sc__law_choices (d__law_choices (k := 0) (allN_cons (He.free_ok X Gn (c.d.fact 36 (f := .free "range") rfl)) allN_nil))) (Nat.le_refl _) (He.glo_ok X Gn (c.d.fact 25 (f := .glo "_law_choices") rfl)) F.kp (FunD.bindsN (ps := ["rows", "n"]) F fun _ _ _ _ _ _ us hl => match us, hl with | [_, _], _ => rfl) rfl
theorem c__law_index (c : SaysZ fa fn ex T.K) (X : T.K.In h) (Gn : h.Ns mainGlobals T.mg) : CallE T 1 "_law_index" 2 cs__law_index := by
  obtain ⟨fd, F⟩ := c.d.def_ 26 (d := defD "_law_index" t__law_index) rfl
  exact callE_of (FunD.fnE F sc__law_index (d__law_index (k := 0) )) (Nat.le_refl _) (He.glo_ok X Gn (c.d.fact 26 (f := .glo "_law_index") rfl)) F.kp (FunD.bindsN (ps := ["k", "row"]) F fun _ _ _ _ _ _ us hl => match us, hl with | [_, _], _ => rfl) rfl
theorem c__law_value (c : SaysZ fa fn ex T.K) (X : T.K.In h) (Gn : h.Ns mainGlobals T.mg) : CallE T 2 "_law_value" 2 cs__law_value := by
  obtain ⟨fd, F⟩ := c.d.def_ 27 (d := defD "_law_value" t__law_value) rfl
  exact callE_of (FunD.fnE F sc__law_value (d__law_value (k := 1) ((c__law_index c X Gn).mono (by omega)))) (Nat.le_refl _) (He.glo_ok X Gn (c.d.fact 27 (f := .glo "_law_value") rfl)) F.kp (FunD.bindsN (ps := ["operation", "row"]) F fun _ _ _ _ _ _ us hl => match us, hl with | [_, _], _ => rfl) rfl
theorem c__law_made_of (c : SaysZ fa fn ex T.K) (X : T.K.In h) (Gn : h.Ns mainGlobals T.mg) : CallE T 3 "_law_made_of" 2 cs__law_made_of := by
  obtain ⟨fd, F⟩ := c.d.def_ 28 (d := defD "_law_made_of" t__law_made_of) rfl
  exact callE_of (FunD.fnE F sc__law_made_of (d__law_made_of (k := 2) (allN_cons (He.free_ok X Gn (c.d.fact 40 (f := .free "len") rfl)) (allN_cons (He.free_ok X Gn (c.d.fact 36 (f := .free "range") rfl)) (allN_cons (He.free_ok X Gn (c.d.fact 53 (f := .free "tuple") rfl)) allN_nil))) ((c__law_value c X Gn).mono (by omega)))) (Nat.le_refl _) (He.glo_ok X Gn (c.d.fact 28 (f := .glo "_law_made_of") rfl)) F.kp (FunD.bindsN (ps := ["operation", "rows"]) F fun _ _ _ _ _ _ us hl => match us, hl with | [_, _], _ => rfl) rfl
theorem c__law_closed (c : SaysZ fa fn ex T.K) (X : T.K.In h) (Gn : h.Ns mainGlobals T.mg) : CallE T 4 "_law_closed" 3 cs__law_closed := by
  obtain ⟨fd, F⟩ := c.d.def_ 29 (d := defD "_law_closed" t__law_closed) rfl
  exact callE_of (FunD.fnE F sc__law_closed (d__law_closed (k := 3) (allN_cons (He.free_ok X Gn (c.d.fact 58 (f := .free "dict") rfl)) (allN_cons (He.free_ok X Gn (c.d.fact 40 (f := .free "len") rfl)) (allN_cons (He.free_ok X Gn (c.d.fact 37 (f := .free "min") rfl)) (allN_cons (He.free_ok X Gn (c.d.fact 36 (f := .free "range") rfl)) (allN_cons (He.free_ok X Gn (c.d.fact 59 (f := .free "sorted") rfl)) allN_nil))))) ((c__law_choices c X Gn).mono (by omega)) ((c__law_made_of c X Gn).mono (by omega)))) (Nat.le_refl _) (He.glo_ok X Gn (c.d.fact 29 (f := .glo "_law_closed") rfl)) F.kp (FunD.bindsN (ps := ["makers", "rows", "most"]) F fun _ _ _ _ _ _ us hl => match us, hl with | [_, _, _], _ => rfl) rfl
theorem c__law_broken (c : SaysZ fa fn ex T.K) (X : T.K.In h) (Gn : h.Ns mainGlobals T.mg) : CallE T 4 "_law_broken" 2 cs__law_broken := by
  obtain ⟨fd, F⟩ := c.d.def_ 30 (d := defD "_law_broken" t__law_broken) rfl
  exact callE_of (FunD.fnE F sc__law_broken (d__law_broken (k := 3) ((c__law_choices c X Gn).mono (by omega)) ((c__law_made_of c X Gn).mono (by omega)))) (Nat.le_refl _) (He.glo_ok X Gn (c.d.fact 30 (f := .glo "_law_broken") rfl)) F.kp (FunD.bindsN (ps := ["operation", "relation"]) F fun _ _ _ _ _ _ us hl => match us, hl with | [_, _], _ => rfl) rfl
theorem c_are_broken (c : SaysZ fa fn ex T.K) (X : T.K.In h) (Gn : h.Ns mainGlobals T.mg) : CallE T 6 "are_broken" 3 cs_are_broken := by
  obtain ⟨fd, F⟩ := c.d.def_ 31 (d := defD "are_broken" t_are_broken) rfl
  exact callE_of (FunD.fnE F sc_are_broken (d_are_broken (k := 5) (allN_cons (He.free_ok X Gn (c.d.fact 39 (f := .free "all") rfl)) (allN_cons (He.free_ok X Gn (c.d.fact 40 (f := .free "len") rfl)) allN_nil)) ((c_check_asked c X Gn).mono (by omega)) ((c_made_of c X Gn).mono (by omega)))) (Nat.le_refl _) (He.glo_ok X Gn (c.d.fact 31 (f := .glo "are_broken") rfl)) F.kp (FunD.bindsN (ps := ["operation", "relation", "rows"]) F fun _ _ _ _ _ _ us hl => match us, hl with | [_, _, _], _ => rfl) rfl
theorem c__law_asked (c : SaysZ fa fn ex T.K) (X : T.K.In h) (Gn : h.Ns mainGlobals T.mg) : CallE T 8 "_law_asked" 4 cs__law_asked := by
  obtain ⟨fd, F⟩ := c.d.def_ 32 (d := defD "_law_asked" t__law_asked) rfl
  exact callE_of (FunD.fnE F sc__law_asked (d__law_asked (k := 7) ((c__law_kind c X Gn).mono (by omega)) (kE c X Gn) ((c_keeps c X Gn).mono (by omega)) ((c_broken_rows c X Gn).mono (by omega)) ((c_are_broken c X Gn).mono (by omega)))) (Nat.le_refl _) (He.glo_ok X Gn (c.d.fact 32 (f := .glo "_law_asked") rfl)) F.kp (FunD.bindsN (ps := ["way", "operation", "relation", "rows"]) F fun _ _ _ _ _ _ us hl => match us, hl with | [_, _, _, _], _ => rfl) rfl
theorem c_law (c : SaysZ fa fn ex T.K) (X : T.K.In h) (Gn : h.Ns mainGlobals T.mg) : FnE T 9 (He.ga T.K "law") (c.d.def_ 33 (d := defD "law" t_law) rfl).choose ["script"] cs_law :=
  FunD.fnE (c.d.def_ 33 (d := defD "law" t_law) rfl).choose_spec sc_law (d_law (k := 8) (allN_cons (He.free_ok X Gn (c.d.fact 39 (f := .free "all") rfl)) (allN_cons (He.free_ok X Gn (c.d.fact 35 (f := .free "int") rfl)) (allN_cons (He.free_ok X Gn (c.d.fact 40 (f := .free "len") rfl)) (allN_cons (He.free_ok X Gn (c.d.fact 36 (f := .free "range") rfl)) (allN_cons (He.free_ok X Gn (c.d.fact 60 (f := .free "repr") rfl)) (allN_cons (He.free_ok X Gn (c.d.fact 59 (f := .free "sorted") rfl)) (allN_cons (He.free_ok X Gn (c.d.fact 53 (f := .free "tuple") rfl)) allN_nil))))))) ((c__law_draws c X Gn).mono (by omega)) ((c__law_more c X Gn).mono (by omega)) ((c_broken_rows c X Gn).mono (by omega)) ((c_keeps c X Gn).mono (by omega)) ((c__law_next c X Gn).mono (by omega)) ((c__law_pick c X Gn).mono (by omega)) ((c__law_tuples c X Gn).mono (by omega)) ((c__law_operation c X Gn).mono (by omega)) ((c__law_closed c X Gn).mono (by omega)) ((c__law_broken c X Gn).mono (by omega)) ((c__law_asked c X Gn).mono (by omega)) ((c__law_made_of c X Gn).mono (by omega)) ((c_is_relation c X Gn).mono (by omega)))
end
abbrev RowZ0 : PySem.W.OpenRow := PySem.W.OpenLaw.row PySem.Challenge.rw_madefrom_k02_relations_that_are_kept
abbrev qv : Program := PySem.W.view RowZ0.prog [54]
abbrev hk : PySem.W.Hook := hookZ 5 fa fn ex
def ob (s : PySem.W.SharedT) : AlZ := obsZ 5 fa fn ex (HandSHeadRun.getT s)
theorem ob_eq (s : PySem.W.SharedT) : ob s = hk.obs s.abs := obsZ_eq (HandSHeadRun.getT_eq s)
theorem run (w : World) : HandSHeadRun.RunEq RowZ0 qv hk ob 4000 loose w := by
  intro os
  kernel_rfl
theorem walk (L : ∀ ns : List Int, ns.length ≤ 63 → ∃ ps, cs_law [.val (.list (ns.map PyData.int))] = .ok (.val (.bool true)) ps) (w : World) (mg : Str → Option Value) (f : Addr) (h : Heap) (Y : hk.says w h) (Gn : h.Ns mainGlobals mg) (hm : mg ("law" : Str) = some (.ref f)) :
    ∃ (K : PySem.W.Frag) (fd : FuncData) (cs : Cs), K.In h ∧ (∀ (s : Shared) (u : Value), BindsTo s fd ⟨[u], []⟩ [("script", u)]) ∧ (∀ ns : List Int, ns.length ≤ 63 → ∃ ps, cs [.val (.list (ns.map PyData.int))] = .ok (.val (.bool true)) ps) ∧
      ∀ base : Heap, K.In base → base.Ns mainGlobals mg → FnE ⟨PySem.Challenge.rw_madefrom_k02_relations_that_are_kept.prog, w, K, mg, base⟩ 9 f fd ["script"] cs := by
  obtain ⟨K, X, c⟩ := Y
  have e := hm.symm.trans (He.glo_ok X Gn (c.d.fact 33 (f := .glo "law") rfl))
  cases e
  refine ⟨K, _, cs_law, X, fun s u => FunD.bindsA (ps := ["script"]) (c.d.def_ 33 (d := defD "law" t_law) rfl).choose_spec (fun _ _ _ _ _ _ us hl => match us, hl with | [_], _ => rfl) s [u] rfl, L, fun base _ _ => c_law (T := ⟨PySem.Challenge.rw_madefrom_k02_relations_that_are_kept.prog, w, K, mg, base⟩) c X Gn⟩
end LW
open PySem PySem.W PySem.Calls PyProof.Rows
theorem holds_of (L : ∀ ns : List Int, ns.length ≤ 63 → ∃ ps, LW.cs_law [.val (.list (ns.map PyData.int))] = .ok (.val (.bool true)) ps) : PySem.Challenge.rw_madefrom_k02_relations_that_are_kept.Holds := by
  w_on; o_law
  refine HandSHeadRun.head_any (r := OpenLaw.row PySem.Challenge.rw_madefrom_k02_relations_that_are_kept) (q := LW.qv) (H := LW.hk) (ob := LW.ob) (M := 4000) (loose := LW.loose) (d := HandSHeadRun.topDef (OpenLaw.row PySem.Challenge.rw_madefrom_k02_relations_that_are_kept).prog 54) (kwd := []) LW.ob_eq
    (by kernel_rfl) (fun s => by kernel_rfl) LW.run (by kernel_rfl) (by kernel_rfl) (by kernel_rfl) (by rfl) (by first | assumption | decide +kernel) (by decide +kernel) ⟨rfl, rfl, rfl, rfl, rfl, by decide +kernel⟩ ?hw ?hc
  case hw => w_witness2
  case hc =>
    refine EV.walk_ofEV (l := PySem.Challenge.rw_madefrom_k02_relations_that_are_kept) (n := 63) (k := 9) (x := "script") rfl (by decide) (by kernel_rfl) ⟨by decide, by decide⟩ ?F
    intro w mg fa h Y G hmg0
    have hmg : mg ("law" : PySem.Str) = some (.ref fa) := by
      have e : (HandSHeadRun.topDef (OpenLaw.row PySem.Challenge.rw_madefrom_k02_relations_that_are_kept).prog 54).name = ("law" : PySem.Str) := by kernel_rfl
      rw [← e]
      exact hmg0
    exact LW.walk L w mg fa h Y G hmg
end
section
set_option Elab.async false
set_option linter.all false
set_option maxRecDepth 100000
set_option autoImplicit false
set_option maxHeartbeats 4000000
namespace LW
open EV PySem PySem.Spec L2
local macro_rules | `(tactic| walk_at "ev") => `(tactic| simp [mkCs_eq, outC_nx, outC_val, outC_own, outC_ex, outC_ite, outPs, seqS_eq, thenS_nx, thenS_rt, thenS_ex, thenS_bk, thenS_ct, thenS_ite, semNx, semIfS, semRet, semRetN, semExpr, semSet, semAsg, semCmpB, semBin, semUn, semC, semNh, semNv, semNm, semNot, semAnd, semOr, semIf, semBV, semChain, semAndV, semOrV, semNotV, semTru, semCallB, semTup, semLst, semSlice, semPart, try_eq, tryS_nx, tryS_rt, tryS_ex, semPick, semSeq, semRange1, semRange2, semMut, semCall, semRaise, semArgs, semFor, semComp, semMethT, callBack_eq, backC_val, backC_own, backC_ex, backC_ite,
  fz, R.fz, R.get, O.d, bind_ok, bind_ex, bind_ite, bindN_k, bindN_ite, eThen_ok, eThen_ex, eThen_ite, bThen_ok, bThen_ex, bThen_ite, iThen_ok, iThen_ex, asB_eq, ansB_some, ansB_ite, app1_eq, app2_eq, appn_eq, appm_eq, ans_some, ans_ite, getAll, valsOf, boolOf, intOf, intsOf, truth, kindO, argSV, slotsOf, nodupN, backs, SV.of, Tg.bind, Tgs.bind, Tgs.len, seqOf, pLt, pLe, pGt, pGe, pAdd, pSub, pMul, pDiv, pMod, pNeg, pInt, pLen, pMax_two, pMin_two, pMax_map, pMin_map, pMaxT_map, pMinT_map, pSum_map, pSumT_map, pTuple, pList, pSub1, slS, pEq_int, pNe_int, pEq_str, pNe_str, pAll_map, at_0, at_1, at_2, at_3, at_4, intsD_map, mPop, mAppend, mExtend, mReverse, List.range_succ, noOwn, unS, backS, range_of, absLe_of, bit64_in, szOk_of, le_size])
local macro_rules | `(tactic| walk_at "evh") => `(tactic| simp [mkCs_eq, outC_nx, outC_val, outC_own, outC_ex, outC_ite, outPs, seqS_eq, thenS_nx, thenS_rt, thenS_ex, thenS_bk, thenS_ct, thenS_ite, semNx, semIfS, semRet, semRetN, semExpr, semSet, semAsg, semCmpB, semBin, semUn, semC, semNh, semNv, semNm, semNot, semAnd, semOr, semIf, semBV, semChain, semAndV, semOrV, semNotV, semTru, semCallB, semTup, semLst, semSlice, semPart, try_eq, tryS_nx, tryS_rt, tryS_ex, semPick, semSeq, semRange1, semRange2, semMut, semCall, semRaise, semArgs, semFor, semComp, semMethT, callBack_eq, backC_val, backC_own, backC_ex, backC_ite,
  fz, R.fz, R.get, O.d, bind_ok, bind_ex, bind_ite, bindN_k, bindN_ite, eThen_ok, eThen_ex, eThen_ite, bThen_ok, bThen_ex, bThen_ite, iThen_ok, iThen_ex, asB_eq, ansB_some, ansB_ite, app1_eq, app2_eq, appn_eq, appm_eq, ans_some, ans_ite, getAll, valsOf, boolOf, intOf, intsOf, truth, kindO, argSV, slotsOf, nodupN, backs, SV.of, Tg.bind, Tgs.bind, Tgs.len, seqOf, pLt, pLe, pGt, pGe, pAdd, pSub, pMul, pDiv, pMod, pNeg, pInt, pLen, pMax_two, pMin_two, pMax_map, pMin_map, pMaxT_map, pMinT_map, pSum_map, pSumT_map, pTuple, pList, pSub1, slS, pEq_int, pNe_int, pEq_str, pNe_str, pAll_map, at_0, at_1, at_2, at_3, at_4, intsD_map, mPop, mAppend, mExtend, mReverse, List.range_succ, noOwn, unS, backS, range_of, absLe_of, bit64_in, szOk_of, le_size, *])
local macro_rules | `(tactic| walk_at "evl") => `(tactic| simp [mkCs_eq, outC_nx, outC_val, outC_own, outC_ex, outC_ite, outPs, seqS_eq, thenS_nx, thenS_rt, thenS_ex, thenS_bk, thenS_ct, thenS_ite, semNx, semIfS, semRet, semRetN, semExpr, semSet, semAsg, semCmpB, semBin, semUn, semC, semNh, semNv, semNm, semNot, semAnd, semOr, semIf, semBV, semChain, semAndV, semOrV, semNotV, semTru, semCallB, semTup, semLst, semSlice, semPart, try_eq, tryS_nx, tryS_rt, tryS_ex, semPick, semSeq, semRange1, semRange2, semMut, semCall, semRaise, semArgs, semFor, semComp, semMethT, callBack_eq, backC_val, backC_own, backC_ex, backC_ite,
  fz, R.fz, R.get, O.d, bind_ok, bind_ex, bind_ite, bindN_k, bindN_ite, eThen_ok, eThen_ex, eThen_ite, bThen_ok, bThen_ex, bThen_ite, iThen_ok, iThen_ex, asB_eq, ansB_some, ansB_ite, app1_eq, app2_eq, appn_eq, appm_eq, ans_some, ans_ite, getAll, valsOf, boolOf, intOf, intsOf, truth, kindO, argSV, slotsOf, nodupN, backs, SV.of, Tg.bind, Tgs.bind, Tgs.len, seqOf, pLt, pLe, pGt, pGe, pSub, pDiv, pMod, pNeg, pInt, pLen, pMax_two, pMin_two, pMax_map, pMin_map, pMaxT_map, pMinT_map, pSum_map, pSumT_map, pTuple, pList, pSub1, slS, pEq_int, pNe_int, pEq_str, pNe_str, pAll_map, at_0, at_1, at_2, at_3, at_4, intsD_map, mPop, mAppend, mExtend, mReverse, List.range_succ, noOwn, unS, backS, range_of, absLe_of, bit64_in, szOk_of, le_size, *])
local macro_rules | `(tactic| simp! [$xs,*]) => `(tactic| simp [mkCs_eq, outC_nx, outC_val, outC_own, outC_ex, outC_ite, outPs, seqS_eq, thenS_nx, thenS_rt, thenS_ex, thenS_bk, thenS_ct, thenS_ite, semNx, semIfS, semRet, semRetN, semExpr, semSet, semAsg, semCmpB, semBin, semUn, semC, semNh, semNv, semNm, semNot, semAnd, semOr, semIf, semBV, semChain, semAndV, semOrV, semNotV, semTru, semCallB, semTup, semLst, semSlice, semPart, try_eq, tryS_nx, tryS_rt, tryS_ex, semPick, semSeq, semRange1, semRange2, semMut, semCall, semRaise, semArgs, semFor, semComp, semMethT, callBack_eq, backC_val, backC_own, backC_ex, backC_ite, fz, R.fz, R.get, O.d, bind_ok, bind_ex, bind_ite, bindN_k, bindN_ite, eThen_ok, eThen_ex, eThen_ite, bThen_ok, bThen_ex, bThen_ite, iThen_ok, iThen_ex, asB_eq, ansB_some, ansB_ite, app1_eq, app2_eq, appn_eq, appm_eq, ans_some, ans_ite, getAll, valsOf, boolOf, intOf, intsOf, truth, kindO, argSV, slotsOf, nodupN, backs, SV.of, Tg.bind, Tgs.bind, Tgs.len, seqOf, pLt, pLe, pGt, pGe, pSub, pDiv, pMod, pNeg, pInt, pLen, pMax_two, pMin_two, pMax_map, pMin_map, pMaxT_map, pMinT_map, pSum_map, pSumT_map, pTuple, pList, slS, pEq_int, pNe_int, pEq_str, pNe_str, pAll_map, at_0, at_1, at_2, at_3, at_4, intsD_map, mPop, mAppend, mExtend, mReverse, List.range_succ, noOwn, unS, backS, range_of, absLe_of, bit64_in, szOk_of, le_size, pAdd_int, pMul_int, pAdd_lst, pAdd_tup, bodyS_eq, ctN_nx, ctN_ct, ctN_bk, ctN_rt, ctN_ex, ctN_ite, elemS_eq, valU_ok, valU_ite, testS_eq, elemD_eq, pairU_ok, valP_ok, wp_nx, wp_rt, wp_ex, wp_end, semDComp, semSetIx, semAug, semPar2, semDic0, semZipM, semZipS, semEnum, semListRg, pSub1_lst, pSub1_tup, $xs,*])
section
/-! ### operations -/
def opD (k n : Int) (t : List Int) : D := .tuple [.int k, .int n, .tuple (t.map .int)]
def kns : List (Int × Int × Nat) := [(2, 1, 2), (2, 2, 4), (2, 3, 8), (3, 1, 3), (3, 2, 9), (3, 3, 27)]
def OpOk (k : Int) (d : D) : Prop := ∃ (n : Int) (t : List Int), d = opD k n t ∧ (k, n, t.length) ∈ kns ∧ ∀ e ∈ t, 0 ≤ e ∧ e < k
theorem kns_cases {k n : Int} {m : Nat} {P : Int → Int → Nat → Prop} (h : (k, n, m) ∈ kns) (h1 : P 2 1 2) (h2 : P 2 2 4) (h3 : P 2 3 8) (h4 : P 3 1 3) (h5 : P 3 2 9) (h6 : P 3 3 27) : P k n m := by
  simp only [kns, List.mem_cons, Prod.mk.injEq, List.not_mem_nil, or_false] at h
  rcases h with ⟨rfl, rfl, rfl⟩ | ⟨rfl, rfl, rfl⟩ | ⟨rfl, rfl, rfl⟩ | ⟨rfl, rfl, rfl⟩ | ⟨rfl, rfl, rfl⟩ | ⟨rfl, rfl, rfl⟩ <;> assumption
theorem sp_tuples_for {k n : Int} {m : Nat} (h : (k, n, m) ∈ kns) : cs_tuples_for [.val (.int k), .val (.int n)] = .ok (.val (.int m)) [.val (.int k), .val (.int n)] := by
  refine kns_cases (P := fun k n m => cs_tuples_for [.val (.int k), .val (.int n)] = .ok (.val (.int (m : Nat))) [.val (.int k), .val (.int n)]) h ?_ ?_ ?_ ?_ ?_ ?_ <;> rfl
theorem sp_is_size {k n : Int} {m : Nat} (h : (k, n, m) ∈ kns) : cs_is_size [.val (.int k), .val (.int n)] = .ok (.val (.bool true)) [.val (.int k), .val (.int n)] := by
  refine kns_cases (P := fun k n m => cs_is_size [.val (.int k), .val (.int n)] = .ok (.val (.bool true)) [.val (.int k), .val (.int n)]) h ?_ ?_ ?_ ?_ ?_ ?_ <;> rfl
theorem OpOk.k23 {k : Int} {d : D} (h : OpOk k d) : 2 ≤ k ∧ k ≤ 3 := by
  obtain ⟨n, t, rfl, h1, h2⟩ := h
  exact kns_cases (P := fun k _ _ => 2 ≤ k ∧ k ≤ 3) h1 (by decide) (by decide) (by decide) (by decide) (by decide) (by decide)
theorem sp_is_operation {k : Int} {d : D} (h : OpOk k d) : cs_is_operation [.val d] = .ok (.val (.bool true)) [.val d] := by
  have kk := h.k23
  obtain ⟨n, t, rfl, h1, h2⟩ := h
  have z1 := sp_is_size h1
  have z2 := sp_tuples_for h1
  have k1 : ¬ 3 < k := by omega
  unfold cs_is_operation b_is_operation opD
  walk_at "evh"
  rw [compLoop_map (fun _ => .bool true) _ _ _ rfl ?_]
  · walk_at "evh"
  · intro d hd
    obtain ⟨e, he, rfl⟩ := List.mem_map.mp hd
    obtain ⟨e1, e2⟩ := h2 e he
    refine ⟨_, rfl, _, rfl, ?_⟩
    walk_at "evh"
theorem OpOk.at0 {k : Int} {d : D} (h : OpOk k d) : ∃ n t, d = opD k n t := by
  obtain ⟨n, t, rfl, _⟩ := h; exact ⟨n, t, rfl⟩
end
section
/-! ### indices, values -/
def idx (k : Int) (row : List Int) : Int := row.foldl (fun i e => i * k + e) 0
theorem idx_go {k : Int} (hk : 0 < k) : ∀ (row : List Int) (i : Int), 0 ≤ i → (∀ e ∈ row, 0 ≤ e ∧ e < k) → 0 ≤ row.foldl (fun i e => i * k + e) i ∧ row.foldl (fun i e => i * k + e) i < (i + 1) * k ^ row.length
  | [], i, h, _ => by simp; omega
  | e :: row, i, h, hr => by
    obtain ⟨e0, e1⟩ := hr e (List.mem_cons_self ..)
    have p : 0 ≤ i * k := Int.mul_nonneg h (by omega)
    obtain ⟨h1, h2⟩ := idx_go hk row (i * k + e) (by omega) fun x hx => hr x (List.mem_cons_of_mem _ hx)
    refine ⟨h1, Int.lt_of_lt_of_le h2 ?_⟩
    have q : i * k + e + 1 ≤ (i + 1) * k := by rw [Int.add_mul]; omega
    calc (i * k + e + 1) * k ^ row.length ≤ ((i + 1) * k) * k ^ row.length := Int.mul_le_mul_of_nonneg_right q (Int.le_of_lt (Int.pow_pos hk))
      _ = (i + 1) * k ^ (e :: row).length := by rw [List.length_cons, Int.pow_succ, Int.mul_assoc, Int.mul_comm k]
theorem idx_lt {k : Int} {row : List Int} (hk : 0 < k) (h : ∀ e ∈ row, 0 ≤ e ∧ e < k) : 0 ≤ idx k row ∧ idx k row < k ^ row.length := by
  have := idx_go hk row 0 (by omega) h
  simpa [idx] using this
theorem bit64_small {k : Int} (h : 2 ≤ k ∧ k ≤ 3) : bit64 k = true := absLe_iff.mpr (by omega)
theorem sp_index_of {k : Int} {sq : D} {row : List Int} (hk : 2 ≤ k ∧ k ≤ 3) (hs : seqOf sq = some (row.map .int)) : cs_index_of [.val (.int k), .val sq] = .ok (.val (.int (idx k row))) [.val (.int k), .val sq] := by
  have hb := bit64_small hk
  obtain ⟨x', e, _⟩ := forLoop_fold (t := .one 3) (b := semSeqS (semSet 2 (semBin pAdd (fz (semBin pMul (semNh 2) (semNh 0))) (semNh 3))) semNx) PyData.int (fun (a : Int) (x : SV) => [.val (.int k), .val sq, .val (.int a), x]) (fun i e => i * k + e) (fun _ => True) row 0 .un trivial
    (fun d _ a x _ => ⟨_, rfl, .val (.int d), by walk_at "evh", trivial⟩)
  have e' : forLoop (.one 3) (semSeqS (semSet 2 (semBin pAdd (fz (semBin pMul (semNh 2) (semNh 0))) (semNh 3))) semNx) (row.map PyData.int) [.val (.int k), .val sq, .val (.int 0), .un] = _ := e
  unfold cs_index_of b_index_of
  cases sq <;> simp only [seqOf] at hs <;> cases hs <;> walk_at "evh" <;> rfl
theorem sp_law_index {k : Int} {sq : D} {row : List Int} (hk : 2 ≤ k ∧ k ≤ 3) (hs : seqOf sq = some (row.map .int)) : cs__law_index [.val (.int k), .val sq] = .ok (.val (.int (idx k row))) [.val (.int k), .val sq] := sp_index_of hk hs
def opv (d : D) (row : List Int) : Int := match d with
  | .tuple [.int k, .int _, .tuple t] => match t.getD (idx k row).toNat .none with
    | .int e => e
    | _ => 0
  | _ => 0
def RowOk (k : Int) (n : Int) (row : List Int) : Prop := (row.length : Int) = n ∧ ∀ e ∈ row, 0 ≤ e ∧ e < k
theorem opv_at {k n : Int} {t : List Int} {row : List Int} (h : OpOk k (opD k n t)) (hr : RowOk k n row) : atI (t.map PyData.int) (idx k row) = some (.int (opv (opD k n t) row)) ∧ 0 ≤ opv (opD k n t) row ∧ opv (opD k n t) row < k := by
  have kk := h.k23
  obtain ⟨n', t', e, h1, h2⟩ := h
  simp only [opD, PyData.tuple.injEq, List.cons.injEq, PyData.int.injEq, and_true, true_and] at e
  obtain ⟨rfl, e⟩ := e
  have et : t = t' := by
    have := congrArg (List.map fun d : D => match d with | .int i => i | _ => 0) e
    simpa [List.map_map, Function.comp_def] using this
  subst et
  obtain ⟨h3, h4⟩ := idx_lt (k := k) (by omega) hr.2
  have hm : k ^ row.length = (t.length : Int) := by
    have hl := hr.1
    have : ∀ l : Nat, (l : Int) = n → k ^ l = (t.length : Int) := kns_cases (P := fun k n m => ∀ l : Nat, (l : Int) = n → k ^ l = (m : Int)) h1 (fun l e => by obtain rfl : l = 1 := (by omega); rfl) (fun l e => by obtain rfl : l = 2 := (by omega); rfl) (fun l e => by obtain rfl : l = 3 := (by omega); rfl) (fun l e => by obtain rfl : l = 1 := (by omega); rfl) (fun l e => by obtain rfl : l = 2 := (by omega); rfl) (fun l e => by obtain rfl : l = 3 := (by omega); rfl)
    exact this _ hl
  rw [hm] at h4
  have hi : (idx k row).toNat < t.length := by omega
  have eo : opv (opD k n t) row = t[(idx k row).toNat] := by
    simp only [opv, opD]
    rw [List.getD_eq_getElem?_getD, List.getElem?_map, List.getElem?_eq_getElem hi]
    rfl
  refine ⟨atI_of h3 (by rw [List.getElem?_map, List.getElem?_eq_getElem hi, eo]; rfl), ?_⟩
  rw [eo]
  exact h2 _ (List.getElem_mem hi)
theorem sp_law_value {k n : Int} {t : List Int} {sq : D} {row : List Int} (h : OpOk k (opD k n t)) (hr : RowOk k n row) (hs : seqOf sq = some (row.map .int)) : cs__law_value [.val (opD k n t), .val sq] = .ok (.val (.int (opv (opD k n t) row))) [.val (opD k n t), .val sq] := by
  have z1 := sp_law_index h.k23 hs
  have z2 := (opv_at h hr).1
  generalize opv (opD k n t) row = v at *
  unfold cs__law_value b__law_value
  unfold opD at *
  walk_at "evh"
end
section
/-! ### rows -/
def rowsI (k : Nat) : Nat → List (List Int)
  | 0 => [[]]
  | n + 1 => ((rowsI k n).map fun r => (List.range k).map fun (e : Nat) => r ++ [Int.ofNat e]).flatten
def kn6 : List (Nat × Nat) := [(2, 1), (2, 2), (2, 3), (3, 1), (3, 2), (3, 3)]
theorem sp_law_tuples : ∀ p ∈ kn6, cs__law_tuples [.val (.int p.1), .val (.int p.2)] = .ok (.val (.list ((rowsI p.1 p.2).map rwD))) [.val (.int p.1), .val (.int p.2)] := by
  intro p hp
  simp only [kn6, List.mem_cons, List.not_mem_nil, or_false] at hp
  rcases hp with rfl | rfl | rfl | rfl | rfl | rfl <;> kernel_rfl
theorem rows_ok : ∀ p ∈ kn6, ∀ r ∈ rowsI p.1 p.2, RowOk p.1 p.2 r := by
  unfold RowOk
  decide
end
section
/-! ### tuples, for any number of places -/
def law_tuples_S1 : SemS := semSet 2 (semLst [.one (fz (semTup []))])
def law_tuples_S2_L1_S1 : SemS := semSet 4 (semLst [])
def law_tuples_S2_L1_S2_L1_S1_C1 : Sem := fz (semBin pAdd (semNh 5) (fz (semTup [.one (semNv 6)])))
def law_tuples_S2_L1_S2_L1_S1 : SemS := semExpr (semMut "list" mExtend 4 [.one (fz (semComp [6] (.one 6) (semRange1 [.one (semNh 0)]) (fun s => .ok true s) law_tuples_S2_L1_S2_L1_S1_C1))])
def law_tuples_S2_L1_S2_L1 : SemS := semSeqS law_tuples_S2_L1_S2_L1_S1 semNx
def law_tuples_S2_L1_S2 : SemS := semFor (.one 5) (semSeq (semNv 2)) law_tuples_S2_L1_S2_L1
def law_tuples_S2_L1_S3 : SemS := semSet 2 (semNv 4)
def law_tuples_S2_L1 : SemS := semSeqS law_tuples_S2_L1_S1 (semSeqS law_tuples_S2_L1_S2 (semSeqS law_tuples_S2_L1_S3 semNx))
def law_tuples_S2 : SemS := semFor (.one 3) (semRange1 [.one (semNh 1)]) law_tuples_S2_L1
def law_tuples_S3 : SemS := semRet (semNm 2)
theorem law_tuples_eq : b__law_tuples = semSeqS law_tuples_S1 (semSeqS law_tuples_S2 (semSeqS law_tuples_S3 semNx)) := rfl
theorem rowsI_len (k : Nat) : ∀ n, (rowsI k n).length = k ^ n
  | 0 => rfl
  | n + 1 => by
    simp only [rowsI, List.length_flatten, List.map_map, Function.comp_def, List.length_map, List.length_range, List.map_const', List.sum_replicate_nat, rowsI_len k n, Nat.pow_succ]
theorem rowsI_mem {k : Nat} : ∀ {n : Nat} {r : List Int}, r ∈ rowsI k n → r.length = n
  | 0, r, h => by simp only [rowsI, List.mem_singleton] at h; subst h; rfl
  | n + 1, r, h => by
    simp only [rowsI, List.mem_flatten, List.mem_map] at h
    obtain ⟨_, ⟨q, hq, rfl⟩, h⟩ := h
    obtain ⟨e, he, rfl⟩ := List.mem_map.mp h
    simp [rowsI_mem hq]
def tpStep (k : Nat) (acc : List D) (r : List Int) : List D := acc ++ (List.range k).map fun (e : Nat) => rwD (r ++ [Int.ofNat e])
theorem tpStep_all (k : Nat) : ∀ (ss : List (List Int)) (acc : List D), ss.foldl (tpStep k) acc = acc ++ ((ss.map fun r => (List.range k).map fun (e : Nat) => r ++ [Int.ofNat e]).flatten).map rwD
  | [], acc => by simp
  | s :: ss, acc => by
    rw [List.foldl_cons, tpStep_all k ss]
    simp [tpStep, List.append_assoc, Function.comp_def]
theorem tp_turn {k i : Nat} {n x3 : D} {x2 x4 x5 : SV} (hk : k ≤ 3) (hi : i ≤ 90) (hl : k ^ (i + 1) ≤ 300000) (hl0 : k ^ i ≤ 300000)
    (h2 : x2 = .val (.list ((rowsI k i).map rwD)) ∨ x2 = .own (.lst ((rowsI k i).map rwD))) : ∃ x4' x5', law_tuples_S2_L1 [.val (.int k), .val n, x2, .val x3, x4, x5, .un] = .nx [.val (.int k), .val n, .val (.list ((rowsI k (i + 1)).map rwD)), .val x3, x4', x5', .un] := by
  have e1 : (rowsI k (i + 1)).map rwD = (rowsI k i).foldl (tpStep k) [] := by rw [tpStep_all]; rfl
  rw [e1]
  have k1 : (-1000000 : Int) ≤ k := by omega
  have k2 : (k : Int) ≤ 1000000 := by omega
  suffices H : ∀ sv, Wp (thenS (forLoop (.one 5) law_tuples_S2_L1_S2_L1 ((rowsI k i).map rwD) [.val (.int k), .val n, sv, .val x3, .own (.lst []), x5, .un]) (semSeqS law_tuples_S2_L1_S3 semNx)) fun z => ∃ x4' x5', z = .nx [.val (.int k), .val n, .val (.list ((rowsI k i).foldl (tpStep k) [])), .val x3, x4', x5', .un] by
    have go : Wp (law_tuples_S2_L1 [.val (.int k), .val n, x2, .val x3, x4, x5, .un]) fun z => ∃ x4' x5', z = .nx [.val (.int k), .val n, .val (.list ((rowsI k i).foldl (tpStep k) [])), .val x3, x4', x5', .un] := by
      generalize (rowsI k i).foldl (tpStep k) [] = fs at *
      generalize (rowsI k i).map rwD = ls at *
      rcases h2 with rfl | rfl
      · simp! [law_tuples_S2_L1, law_tuples_S2_L1_S1, law_tuples_S2_L1_S2]
        exact H _
      · simp! [law_tuples_S2_L1, law_tuples_S2_L1_S1, law_tuples_S2_L1_S2]
        exact H _
    exact go
  intro sv
  refine wp_fold (S := fun _ (acc : List D) x => [.val (.int k), .val n, sv, .val x3, .own (.lst acc), x, .un]) (step := tpStep k) (I := fun done acc => acc.length = done.length * k) [] x5 rfl (by simp) (fun done s todo a x ed hI => ?_) fun x' _ => ?_
  · have hs : s.length ≤ 90 := by have := rowsI_mem (k := k) (n := i) (r := s) (by rw [ed]; simp); omega
    have hz : a.length + ((List.range k).map fun (e : Nat) => rwD (s ++ [Int.ofNat e])).length ≤ 1000000 := by
      have h1 : done.length ≤ (rowsI k i).length := by rw [ed]; simp
      rw [rowsI_len] at h1
      have h2 := Nat.mul_le_mul_right k h1
      rw [Nat.pow_succ] at hl
      rw [hI, List.length_map, List.length_range]; omega
    have c : compLoop [6] (.one 6) (fun s => .ok true s) law_tuples_S2_L1_S2_L1_S1_C1 ((List.range k).map fun (e : Nat) => PyData.int (e : Int)) [.val (.int k), .val n, sv, .val x3, .own (.lst a), .val (rwD s), .un] = .ok ((List.range k).map fun (e : Nat) => rwD (s ++ [Int.ofNat e])) [.val (.int k), .val n, sv, .val x3, .own (.lst a), .val (rwD s), .un] := by
      refine comp_pure _ _ fun e he => ?_
      unfold rwD
      rw [List.map_append]
      have z : (s.map PyData.int).length + 1 ≤ 1000000 := by simp; omega
      generalize s.map PyData.int = xs at *
      simp! [law_tuples_S2_L1_S2_L1_S1_C1, z]
    refine ⟨.val (rwD s), ?_, by simp [tpStep, hI, Nat.succ_mul]⟩
    unfold tpStep
    rw [← rangeD_zero] at c
    generalize ((List.range k).map fun (e : Nat) => rwD (s ++ [Int.ofNat e])) = ys at *
    generalize rwD s = d at *
    simp! [law_tuples_S2_L1_S2_L1, law_tuples_S2_L1_S2_L1_S1, c, hz, k1, k2]
  · generalize (rowsI k i).foldl (tpStep k) [] = fs at *
    simp! [law_tuples_S2_L1_S3]
theorem sp_law_tuplesN {k n : Nat} (hk : k ≤ 3) (hn : n ≤ 90) (hb : k ^ n ≤ 300000) (h0 : 0 < n) (k0 : 0 < k) : cs__law_tuples [.val (.int k), .val (.int n)] = .ok (.val (.list ((rowsI k n).map rwD))) [.val (.int k), .val (.int n)] := by
  refine wp_cs (P := fun c => c = _) ?_
  rw [law_tuples_eq]
  have hn' : (n : Int) ≤ 1000000 := by omega
  have hn2 : (-1000000 : Int) ≤ n := by omega
  simp! [law_tuples_S1, law_tuples_S2, hn', hn2]
  rw [rangeD_zero]
  refine wp_for (P := fun done s' => ∃ x2 x3 x4 x5, ((x2 = .val (.list ((rowsI k done.length).map rwD)) ∨ x2 = .own (.lst ((rowsI k done.length).map rwD))) ∧ (done ≠ [] → x2 = .val (.list ((rowsI k done.length).map rwD)))) ∧ s' = [.val (.int k), .val (.int n), x2, x3, x4, x5, .un]) ⟨_, _, _, _, ⟨.inr rfl, fun h => (h rfl).elim⟩, rfl⟩ ?_ ?_
  · rintro done d todo s' ed ⟨x2, x3, x4, x5, ⟨h2, -⟩, rfl⟩
    have hi : done.length < n := by have := congrArg List.length ed; simp at this; omega
    obtain ⟨x4', x5', e⟩ := tp_turn (n := .int n) (x3 := .int d) (x4 := x4) (x5 := x5) hk (by omega) (Nat.le_trans (Nat.pow_le_pow_right k0 (show done.length + 1 ≤ n by omega)) hb) (Nat.le_trans (Nat.pow_le_pow_right k0 (show done.length ≤ n by omega)) hb) h2
    have el : (done ++ [d]).length = done.length + 1 := by simp
    rw [el]
    refine .inl ⟨[.val (.int k), .val (.int n), .val (.list ((rowsI k (done.length + 1)).map rwD)), .val (.int d), x4', x5', .un], ?_, _, _, _, _, ⟨.inl rfl, fun _ => rfl⟩, rfl⟩
    simp! [e]
  · rintro s' ⟨x2, x3, x4, x5, ⟨-, h2⟩, rfl⟩
    have h2 := h2 (by intro e; have := congrArg List.length e; simp at this; omega)
    subst h2
    rw [List.length_range]
    simp! [law_tuples_S3]
end
section
/-! ### draws -/
def dr (l : List Int) : List D := l.reverse.map .int
def hd (l : List Int) : Int := l.headD 0
theorem sp_next (l : List Int) : cs__law_next [.own (.lst (dr l))] = .ok (.val (.int (hd l))) [.own (.lst (dr l.tail))] := by
  unfold cs__law_next b__law_next dr hd
  cases l <;> walk_at "ev"
theorem mod_in {a m : Int} (h : 0 < m) : 0 ≤ a % m ∧ a % m < m := ⟨Int.emod_nonneg _ (by omega), Int.emod_lt_of_pos _ h⟩
theorem sp_pick (l : List Int) {xs : List D} (h : xs ≠ []) : ∃ x ∈ xs, cs__law_pick [.own (.lst (dr l)), .val (.list xs)] = .ok (.val x) [.own (.lst (dr l.tail)), .val (.list xs)] := by
  have hl : 0 < xs.length := List.length_pos_iff.mpr h
  have hl' : (0 : Int) < (xs.length : Int) := by omega
  obtain ⟨h0, h1⟩ := mod_in (a := hd l) hl'
  have hi : (hd l % (xs.length : Int)).toNat < xs.length := by omega
  have z := atI_of h0 (List.getElem?_eq_getElem hi)
  refine ⟨_, List.getElem_mem hi, ?_⟩
  have z1 := sp_next l
  generalize xs[(hd l % (xs.length : Int)).toNat] = x at *
  clear h0 h1 hi h
  unfold cs__law_pick b__law_pick
  walk_at "evh"
theorem intsOfAll {R : Int → Prop} : ∀ {ys : List D}, (∀ (i : Nat) (y : D), ys[i]? = some y → ∃ e, y = PyData.int e ∧ R e) → ∃ t : List Int, ys = t.map .int ∧ ∀ e ∈ t, R e
  | [], _ => ⟨[], rfl, fun e h => by simp at h⟩
  | y :: ys, h => by
    obtain ⟨e, rfl, he⟩ := h 0 y rfl
    obtain ⟨t, rfl, ht⟩ := intsOfAll (ys := ys) fun i y e => h (i + 1) y (by simpa using e)
    exact ⟨e :: t, rfl, fun x hx => (List.mem_cons.mp hx).elim (fun z => z ▸ he) (ht x)⟩
theorem sp_any' (l : List Int) {k n : Int} {m : Nat} (hk : (k, n, m) ∈ kns) : ∃ l' t, OpOk k (opD k n t) ∧ cs__law_any [.own (.lst (dr l)), .val (.int k), .val (.int n)] = .ok (.val (opD k n t)) [.own (.lst (dr l')), .val (.int k), .val (.int n)] := by
  have hp : ∃ rows : List D, rows.length = m ∧ cs__law_tuples [.val (.int k), .val (.int n)] = .ok (.val (.list rows)) [.val (.int k), .val (.int n)] := by
    refine kns_cases (P := fun k n m => ∃ rows : List D, rows.length = m ∧ cs__law_tuples [.val (.int k), .val (.int n)] = .ok (.val (.list rows)) [.val (.int k), .val (.int n)]) hk ?_ ?_ ?_ ?_ ?_ ?_
    · exact ⟨_, rfl, sp_law_tuples (2, 1) (by decide)⟩
    · exact ⟨_, rfl, sp_law_tuples (2, 2) (by decide)⟩
    · exact ⟨_, rfl, sp_law_tuples (2, 3) (by decide)⟩
    · exact ⟨_, rfl, sp_law_tuples (3, 1) (by decide)⟩
    · exact ⟨_, rfl, sp_law_tuples (3, 2) (by decide)⟩
    · exact ⟨_, rfl, sp_law_tuples (3, 3) (by decide)⟩
  obtain ⟨rows, hm, z1⟩ := hp
  have kk : 2 ≤ k ∧ k ≤ 3 := kns_cases (P := fun k _ _ => 2 ≤ k ∧ k ≤ 3) hk (by decide) (by decide) (by decide) (by decide) (by decide) (by decide)
  have k0 : 0 < k := by omega
  obtain ⟨ys, s', e1, ⟨l', hs⟩, e3, e4⟩ := compLoop_run (vs := [3]) (t := .one 3) (c := fun s => .ok true s) (f := fz (semBin pMod (fz (semCallB pInt [.one (fz (semCall cs__law_next [.one (semNh 0)]))])) (semNh 1))) (fun _ s => ∃ l', s = [.own (.lst (dr l')), .val (.int k), .val (.int n), .un]) (fun _ y => ∃ e, y = PyData.int e ∧ (0 ≤ e ∧ e < k)) (ds := rows) (s := [.own (.lst (dr l)), .val (.int k), .val (.int n), .un]) ⟨l, rfl⟩
    (fun i d s hdd hs => by
      obtain ⟨l1, rfl⟩ := hs
      refine ⟨_, rfl, _, rfl, .int (hd l1 % k), [.own (.lst (dr l1.tail)), .val (.int k), .val (.int n), .val d], ?_, ⟨_, rfl, mod_in k0⟩, ⟨_, rfl⟩⟩
      have z := sp_next l1
      clear z1
      walk_at "evh")
  subst hs
  obtain ⟨t, rfl, ht⟩ := intsOfAll e4
  refine ⟨l', t, ⟨n, t, rfl, by rw [← hm, ← e3, List.length_map] at hk; exact hk, ht⟩, ?_⟩
  clear e4 ht
  unfold cs__law_any b__law_any opD
  walk_at "evh"
theorem sp_any (l : List Int) {k n : Int} {m : Nat} (hk : (k, n, m) ∈ kns) : ∃ l' d, OpOk k d ∧ cs__law_any [.own (.lst (dr l)), .val (.int k), .val (.int n)] = .ok (.val d) [.own (.lst (dr l')), .val (.int k), .val (.int n)] := by
  obtain ⟨l', t, h, e⟩ := sp_any' l hk
  exact ⟨l', _, h, e⟩
end
section
/-! ### known operations -/
def T2 : List (List Int) := [[1, 1, 1, 0], [0, 0, 0, 1], [0, 1, 1, 1], [0, 1, 1, 0], [1, 0], [0, 0, 0, 1, 0, 1, 1, 1], [0, 1, 1, 0, 1, 0, 0, 1], [1, 1, 0, 1], [0, 0], [1, 1], [0, 0, 1, 0]]
theorem T2_ok : ∀ t ∈ T2, (t.length = 2 ∨ t.length = 4 ∨ t.length = 8) ∧ ∀ e ∈ t, 0 ≤ e ∧ e < 2 := by decide
theorem sp_known2 (l : List Int) : ∃ l' d, OpOk 2 d ∧ cs__law_known [.own (.lst (dr l)), .val (.int 2)] = .ok (.val d) [.own (.lst (dr l')), .val (.int 2)] := by
  obtain ⟨x, hx, z⟩ := sp_pick l (xs := [.tuple [.int 1, .int 1, .int 1, .int 0], .tuple [.int 0, .int 0, .int 0, .int 1], .tuple [.int 0, .int 1, .int 1, .int 1], .tuple [.int 0, .int 1, .int 1, .int 0], .tuple [.int 1, .int 0], .tuple [.int 0, .int 0, .int 0, .int 1, .int 0, .int 1, .int 1, .int 1], .tuple [.int 0, .int 1, .int 1, .int 0, .int 1, .int 0, .int 0, .int 1], .tuple [.int 1, .int 1, .int 0, .int 1], .tuple [.int 0, .int 0], .tuple [.int 1, .int 1], .tuple [.int 0, .int 0, .int 1, .int 0]]) (by simp)
  have hx' : ∃ t ∈ T2, x = .tuple (t.map .int) := by
    simp only [List.mem_cons, List.not_mem_nil, or_false] at hx
    rcases hx with rfl | rfl | rfl | rfl | rfl | rfl | rfl | rfl | rfl | rfl | rfl
    · exact ⟨[1, 1, 1, 0], by decide, rfl⟩
    · exact ⟨[0, 0, 0, 1], by decide, rfl⟩
    · exact ⟨[0, 1, 1, 1], by decide, rfl⟩
    · exact ⟨[0, 1, 1, 0], by decide, rfl⟩
    · exact ⟨[1, 0], by decide, rfl⟩
    · exact ⟨[0, 0, 0, 1, 0, 1, 1, 1], by decide, rfl⟩
    · exact ⟨[0, 1, 1, 0, 1, 0, 0, 1], by decide, rfl⟩
    · exact ⟨[1, 1, 0, 1], by decide, rfl⟩
    · exact ⟨[0, 0], by decide, rfl⟩
    · exact ⟨[1, 1], by decide, rfl⟩
    · exact ⟨[0, 0, 1, 0], by decide, rfl⟩
  obtain ⟨t, ht, rfl⟩ := hx'
  obtain ⟨h1, h2⟩ := T2_ok t ht
  clear hx ht
  refine ⟨l.tail, opD 2 (if t.length = 2 then 1 else if t.length = 4 then 2 else 3) t, ⟨_, t, rfl, ?_, h2⟩, ?_⟩
  · rcases h1 with e | e | e <;> rw [e] <;> decide
  · unfold cs__law_known b__law_known opD
    rcases h1 with e | e | e <;> walk_at "evh"
end
section
theorem rows32 : cs__law_tuples [.val (.int 3), .val (.int 2)] = .ok (.val (.list [.tuple [.int 0, .int 0], .tuple [.int 0, .int 1], .tuple [.int 0, .int 2], .tuple [.int 1, .int 0], .tuple [.int 1, .int 1], .tuple [.int 1, .int 2], .tuple [.int 2, .int 0], .tuple [.int 2, .int 1], .tuple [.int 2, .int 2]])) [.val (.int 3), .val (.int 2)] := by kernel_rfl
theorem comp3_0 (A : O) : compLoop [5] (.one 5) (fun s => .ok true s) (fz (semBin pSub1 (fz (semLst [.one (fz (semCallB pMax [.one (semNh 5)])), .one (fz (semCallB pMin [.one (semNh 5)])), .one (fz (semBin pMod (fz (semCallB pInt [.one (fz (semCallB pSum [.one (semNh 5)]))])) (semC (.int 3)))), .one (fz (semBin pMod (fz (semCallB pInt [.one (fz (semBin pMul (semC (.int 2)) (fz (semCallB pSum [.one (semNh 5)]))))])) (semC (.int 3))))])) (semNh 4))) [.tuple [.int 0, .int 0], .tuple [.int 0, .int 1], .tuple [.int 0, .int 2], .tuple [.int 1, .int 0], .tuple [.int 1, .int 1], .tuple [.int 1, .int 2], .tuple [.int 2, .int 0], .tuple [.int 2, .int 1], .tuple [.int 2, .int 2]] [.own A, .val (.int 3), .un, .un, .val (.int 0), .un] = .ok [.int 0, .int 1, .int 2, .int 1, .int 1, .int 2, .int 2, .int 2, .int 2] [.own A, .val (.int 3), .un, .un, .val (.int 0), .un] := by kernel_rfl
theorem comp3_1 (A : O) : compLoop [5] (.one 5) (fun s => .ok true s) (fz (semBin pSub1 (fz (semLst [.one (fz (semCallB pMax [.one (semNh 5)])), .one (fz (semCallB pMin [.one (semNh 5)])), .one (fz (semBin pMod (fz (semCallB pInt [.one (fz (semCallB pSum [.one (semNh 5)]))])) (semC (.int 3)))), .one (fz (semBin pMod (fz (semCallB pInt [.one (fz (semBin pMul (semC (.int 2)) (fz (semCallB pSum [.one (semNh 5)]))))])) (semC (.int 3))))])) (semNh 4))) [.tuple [.int 0, .int 0], .tuple [.int 0, .int 1], .tuple [.int 0, .int 2], .tuple [.int 1, .int 0], .tuple [.int 1, .int 1], .tuple [.int 1, .int 2], .tuple [.int 2, .int 0], .tuple [.int 2, .int 1], .tuple [.int 2, .int 2]] [.own A, .val (.int 3), .un, .un, .val (.int 1), .un] = .ok [.int 0, .int 0, .int 0, .int 0, .int 1, .int 1, .int 0, .int 1, .int 2] [.own A, .val (.int 3), .un, .un, .val (.int 1), .un] := by kernel_rfl
theorem comp3_2 (A : O) : compLoop [5] (.one 5) (fun s => .ok true s) (fz (semBin pSub1 (fz (semLst [.one (fz (semCallB pMax [.one (semNh 5)])), .one (fz (semCallB pMin [.one (semNh 5)])), .one (fz (semBin pMod (fz (semCallB pInt [.one (fz (semCallB pSum [.one (semNh 5)]))])) (semC (.int 3)))), .one (fz (semBin pMod (fz (semCallB pInt [.one (fz (semBin pMul (semC (.int 2)) (fz (semCallB pSum [.one (semNh 5)]))))])) (semC (.int 3))))])) (semNh 4))) [.tuple [.int 0, .int 0], .tuple [.int 0, .int 1], .tuple [.int 0, .int 2], .tuple [.int 1, .int 0], .tuple [.int 1, .int 1], .tuple [.int 1, .int 2], .tuple [.int 2, .int 0], .tuple [.int 2, .int 1], .tuple [.int 2, .int 2]] [.own A, .val (.int 3), .un, .un, .val (.int 2), .un] = .ok [.int 0, .int 1, .int 2, .int 1, .int 2, .int 0, .int 2, .int 0, .int 1] [.own A, .val (.int 3), .un, .un, .val (.int 2), .un] := by kernel_rfl
theorem comp3_3 (A : O) : compLoop [5] (.one 5) (fun s => .ok true s) (fz (semBin pSub1 (fz (semLst [.one (fz (semCallB pMax [.one (semNh 5)])), .one (fz (semCallB pMin [.one (semNh 5)])), .one (fz (semBin pMod (fz (semCallB pInt [.one (fz (semCallB pSum [.one (semNh 5)]))])) (semC (.int 3)))), .one (fz (semBin pMod (fz (semCallB pInt [.one (fz (semBin pMul (semC (.int 2)) (fz (semCallB pSum [.one (semNh 5)]))))])) (semC (.int 3))))])) (semNh 4))) [.tuple [.int 0, .int 0], .tuple [.int 0, .int 1], .tuple [.int 0, .int 2], .tuple [.int 1, .int 0], .tuple [.int 1, .int 1], .tuple [.int 1, .int 2], .tuple [.int 2, .int 0], .tuple [.int 2, .int 1], .tuple [.int 2, .int 2]] [.own A, .val (.int 3), .un, .un, .val (.int 3), .un] = .ok [.int 0, .int 2, .int 1, .int 2, .int 1, .int 0, .int 1, .int 0, .int 2] [.own A, .val (.int 3), .un, .un, .val (.int 3), .un] := by kernel_rfl
theorem sp_known3 (l : List Int) : ∃ l' d, OpOk 3 d ∧ cs__law_known [.own (.lst (dr l)), .val (.int 3)] = .ok (.val d) [.own (.lst (dr l')), .val (.int 3)] := by
  have z := sp_next l
  have y := rows32
  obtain ⟨h0, h1⟩ := mod_in (a := hd l) (m := 6) (by decide)
  have hc : hd l % 6 = 0 ∨ hd l % 6 = 1 ∨ hd l % 6 = 2 ∨ hd l % 6 = 3 ∨ hd l % 6 = 4 ∨ hd l % 6 = 5 := by omega
  clear h0 h1
  rcases hc with e | e | e | e | e | e
  · refine ⟨l.tail, opD 3 2 [0, 1, 2, 1, 1, 2, 2, 2, 2], ⟨2, [0, 1, 2, 1, 1, 2, 2, 2, 2], rfl, by decide, by decide⟩, ?_⟩
    have c := comp3_0 (.lst (dr l.tail))
    unfold cs__law_known b__law_known opD
    walk_at "evh"
  · refine ⟨l.tail, opD 3 2 [0, 0, 0, 0, 1, 1, 0, 1, 2], ⟨2, [0, 0, 0, 0, 1, 1, 0, 1, 2], rfl, by decide, by decide⟩, ?_⟩
    have c := comp3_1 (.lst (dr l.tail))
    unfold cs__law_known b__law_known opD
    walk_at "evh"
  · refine ⟨l.tail, opD 3 2 [0, 1, 2, 1, 2, 0, 2, 0, 1], ⟨2, [0, 1, 2, 1, 2, 0, 2, 0, 1], rfl, by decide, by decide⟩, ?_⟩
    have c := comp3_2 (.lst (dr l.tail))
    unfold cs__law_known b__law_known opD
    walk_at "evh"
  · refine ⟨l.tail, opD 3 2 [0, 2, 1, 2, 1, 0, 1, 0, 2], ⟨2, [0, 2, 1, 2, 1, 0, 1, 0, 2], rfl, by decide, by decide⟩, ?_⟩
    have c := comp3_3 (.lst (dr l.tail))
    unfold cs__law_known b__law_known opD
    walk_at "evh"
  · refine ⟨l.tail, opD 3 1 [1, 2, 0], ⟨1, [1, 2, 0], rfl, by decide, by decide⟩, ?_⟩
    unfold cs__law_known b__law_known opD
    walk_at "evh"
  · refine ⟨l.tail, opD 3 1 [2, 1, 0], ⟨1, [2, 1, 0], rfl, by decide, by decide⟩, ?_⟩
    unfold cs__law_known b__law_known opD
    walk_at "evh"
end
section
theorem sp_operation2 (l : List Int) : ∃ l' d, OpOk 2 d ∧ cs__law_operation [.own (.lst (dr l)), .val (.int 2)] = .ok (.val d) [.own (.lst (dr l')), .val (.int 2)] := by
  have z := sp_next l
  obtain ⟨h0, h1⟩ := mod_in (a := hd l) (m := 3) (by decide)
  by_cases c : 0 < hd l % 3
  · obtain ⟨l', d, hd', e⟩ := sp_known2 l.tail
    refine ⟨l', d, hd', ?_⟩
    clear h0 h1
    unfold cs__law_operation b__law_operation
    walk_at "evh"
  · obtain ⟨x, hx, y⟩ := sp_pick l.tail (xs := [.int 1, .int 2, .int 2, .int 3]) (by simp)
    have hx' : ∃ (n : Int) (m : Nat), x = .int n ∧ (2, n, m) ∈ kns := by
      simp only [List.mem_cons, List.not_mem_nil, or_false] at hx
      rcases hx with rfl | rfl | rfl | rfl
      · exact ⟨1, 2, rfl, by decide⟩
      · exact ⟨2, 4, rfl, by decide⟩
      · exact ⟨2, 4, rfl, by decide⟩
      · exact ⟨3, 8, rfl, by decide⟩
    obtain ⟨n, m, rfl, hn⟩ := hx'
    obtain ⟨l', d, hd', e⟩ := sp_any l.tail.tail hn
    refine ⟨l', d, hd', ?_⟩
    clear h0 h1 hx
    unfold cs__law_operation b__law_operation
    walk_at "evh"
theorem sp_operation3 (l : List Int) : ∃ l' d, OpOk 3 d ∧ cs__law_operation [.own (.lst (dr l)), .val (.int 3)] = .ok (.val d) [.own (.lst (dr l')), .val (.int 3)] := by
  have z := sp_next l
  obtain ⟨h0, h1⟩ := mod_in (a := hd l) (m := 3) (by decide)
  by_cases c : 0 < hd l % 3
  · obtain ⟨l', d, hd', e⟩ := sp_known3 l.tail
    refine ⟨l', d, hd', ?_⟩
    clear h0 h1
    unfold cs__law_operation b__law_operation
    walk_at "evh"
  · obtain ⟨x, hx, y⟩ := sp_pick l.tail (xs := [.int 1, .int 1, .int 2]) (by simp)
    have hx' : ∃ (n : Int) (m : Nat), x = .int n ∧ (3, n, m) ∈ kns := by
      simp only [List.mem_cons, List.not_mem_nil, or_false] at hx
      rcases hx with rfl | rfl | rfl
      · exact ⟨1, 3, rfl, by decide⟩
      · exact ⟨1, 3, rfl, by decide⟩
      · exact ⟨2, 9, rfl, by decide⟩
    obtain ⟨n, m, rfl, hn⟩ := hx'
    obtain ⟨l', d, hd', e⟩ := sp_any l.tail.tail hn
    refine ⟨l', d, hd', ?_⟩
    clear h0 h1 hx
    unfold cs__law_operation b__law_operation
    walk_at "evh"
theorem sp_operation {k : Int} (hk : k = 2 ∨ k = 3) (l : List Int) : ∃ l' d, OpOk k d ∧ cs__law_operation [.own (.lst (dr l)), .val (.int k)] = .ok (.val d) [.own (.lst (dr l')), .val (.int k)] := by
  rcases hk with rfl | rfl
  · exact sp_operation2 l
  · exact sp_operation3 l
end
section
/-! ### the draws of a script -/
theorem sp_number (i : Int) : ∃ r, cs__law_number [.val (.int i)] = .ok (.val (.int r)) [.val (.int i)] := by
  by_cases c : i < 0
  · refine ⟨0 - i, ?_⟩
    unfold cs__law_number b__law_number
    walk_at "evh"
  · refine ⟨i, ?_⟩
    unfold cs__law_number b__law_number
    walk_at "evh"
def drawsL1 : SemS := semSeqS (semIfS (semCmpB pEq (semNh 3) (semC (.int 0))) (semSeqS (fun s => .bk s) semNx) semNx) (semSeqS (semExpr (semMut "list" mAppend 1 [.one (fz (semBin pMod (fz (semCallB pInt [.one (semNh 3)])) (semC (.int 1000))))])) (semSeqS (semSet 3 (semBin pDiv (semNh 3) (semC (.int 1000)))) semNx))
def drawsL2 : SemS := (semSeqS (semSet 3 (semCall cs__law_number [.one (semNv 2)])) (semSeqS (semIfS (semCmpB pGe (semNh 3) (semC (.int 1000000000000000000))) (semSeqS (semFor (.one 4) (semRange1 [.one (semC (.int 60))]) drawsL1) semNx) (semSeqS (semSet 5 (semBin pMod (fz (semCallB pInt [.one (fz (semBin pAdd (fz (semBin pMul (semNh 3) (semC (.int 48271)))) (semC (.int 11))))])) (semC (.int 2147483647)))) (semSeqS (semSet 6 (semBin pMod (fz (semCallB pInt [.one (fz (semBin pAdd (fz (semBin pMul (semNh 5) (semC (.int 69621)))) (semNh 3)))])) (semC (.int 2147483629)))) (semSeqS (semExpr (semMut "list" mExtend 1 [.one (fz (semLst [.one (fz (semBin pMod (fz (semCallB pInt [.one (semNh 3)])) (semC (.int 1000)))), .one (fz (semBin pMod (fz (semCallB pInt [.one (semNh 5)])) (semC (.int 1000)))), .one (fz (semBin pMod (fz (semCallB pInt [.one (semNh 6)])) (semC (.int 1000))))]))])) semNx)))) semNx))
theorem draws_eq : b__law_draws = semSeqS (semSet 1 (semLst [])) (semSeqS (semFor (.one 2) (semSeq (semNv 0)) drawsL2) (semSeqS (semExpr (semMut "list" mReverse 1 [])) (semSeqS (semRet (semNm 1)) semNx))) := rfl
theorem len_lt {l : List Int} (h : l.length ≤ 100000) : l.length < sizeLine := lt_size' (Nat.le_trans h (by decide))
theorem len_le3 {l : List Int} (h : l.length ≤ 100000) : l.length + 3 ≤ sizeLine := le_size (by omega)
theorem drawsL1_run {sc : D} {a c d e : SV} {l : List Int} {r : Int} (h : l.length ≤ 50000) : ∃ (l' : List Int) (a' : SV) (r' : Int), l'.length ≤ l.length + 60 ∧ forLoop (.one 4) drawsL1 (rangeD 0 60) [.val sc, .own (.lst (l.map .int)), a, .val (.int r), c, d, e] = .nx [.val sc, .own (.lst (l'.map .int)), a, .val (.int r'), a', d, e] := by
  obtain ⟨s', i, hi, e1, ⟨l', r', a', hs, hl⟩⟩ := forLoop_brk (t := .one 4) (b := drawsL1) 60 (fun i s => ∃ (l' : List Int) (r' : Int) (c' : SV), s = [.val sc, .own (.lst (l'.map .int)), a, .val (.int r'), c', d, e] ∧ l'.length ≤ l.length + i) (rangeD 0 60) 0 [.val sc, .own (.lst (l.map .int)), a, .val (.int r), c, d, e]
    (fun i x s hi hx hs => by
      obtain ⟨l1, r1, c1, rfl, h1⟩ := hs
      refine ⟨_, rfl, ?_⟩
      by_cases c0 : r1 = 0
      · refine ⟨_, .inr ⟨?_, ⟨l1, 0, .val x, rfl, h1⟩⟩⟩
        subst c0
        unfold drawsL1
        walk_at "ev"
      · refine ⟨_, .inl ⟨.inl ?_, ⟨l1 ++ [r1 % 1000], r1 / 1000, .val x, rfl, by simp; omega⟩⟩⟩
        have z := len_lt (l := l1) (by omega)
        clear h1 hx hi
        unfold drawsL1
        walk_at "evh")
    (by simp [rangeD]) ⟨l, r, c, rfl, by omega⟩
  subst hs
  have : (rangeD 0 60).length = 60 := rfl
  exact ⟨l', a', r', by omega, e1⟩
theorem sp_draws (ns : List Int) (h : ns.length ≤ 63) : ∃ l : List Int, l.length ≤ 4000 ∧ cs__law_draws [.val (.list (ns.map .int))] = .ok (.own (.lst (dr l))) [.val (.list (ns.map .int))] := by
  obtain ⟨s', e1, ⟨l, a, b, c, d, e, hs, hl⟩⟩ := forLoop_run (t := .one 2) (b := drawsL2) (fun i s => ∃ (l : List Int) (a b c d e : SV), s = [.val (.list (ns.map .int)), .own (.lst (l.map .int)), a, b, c, d, e] ∧ l.length ≤ 60 * i) (ds := ns.map .int) (s := [.val (.list (ns.map .int)), .own (.lst []), .un, .un, .un, .un, .un])
    ⟨[], _, _, _, _, _, rfl, by simp⟩
    (fun i x s hx hs => by
      obtain ⟨l1, a, b, c, d, e, rfl, h1⟩ := hs
      have hi : i < ns.length := by have := (List.getElem?_eq_some_iff.mp hx).1; simpa using this
      obtain ⟨j, -, rfl⟩ := List.mem_map.mp (List.mem_of_getElem? hx)
      refine ⟨_, rfl, ?_⟩
      obtain ⟨r, z⟩ := sp_number j
      by_cases c0 : r ≥ 1000000000000000000
      · obtain ⟨l', a', r', hl, e1⟩ := drawsL1_run (sc := .list (ns.map .int)) (a := .val (.int j)) (c := c) (d := d) (e := e) (l := l1) (r := r) (by omega)
        refine ⟨_, .inl ?_, ⟨l', .val (.int j), .val (.int r'), a', d, e, rfl, by omega⟩⟩
        clear h1 hx hi hl
        unfold drawsL2
        walk_at "evh"
      · refine ⟨_, .inl ?_, ⟨l1 ++ [r % 1000, (r * 48271 + 11) % 2147483647 % 1000, ((r * 48271 + 11) % 2147483647 * 69621 + r) % 2147483629 % 1000], .val (.int j), .val (.int r), c, .val (.int ((r * 48271 + 11) % 2147483647)), .val (.int (((r * 48271 + 11) % 2147483647 * 69621 + r) % 2147483629)), rfl, by simp; omega⟩⟩
        have z3 : l1.length + 3 ≤ 1000000 := by omega
        clear h1 hx hi
        unfold drawsL2
        walk_at "evh")
  subst hs
  refine ⟨l, by simp at hl; omega, ?_⟩
  unfold cs__law_draws
  rw [draws_eq]
  unfold dr
  clear hl h
  walk_at "evh"
def moreL : SemS := (semSeqS (semSet 2 (semBin pMod (fz (semCallB pInt [.one (fz (semBin pAdd (fz (semBin pMul (semNh 2) (semC (.int 48271)))) (semC (.int 12345))))])) (semC (.int 2147483647)))) (semSeqS (semExpr (semMut "list" mAppend 3 [.one (fz (semBin pMod (fz (semCallB pInt [.one (fz (semBin pDiv (semNh 2) (semC (.int 7))))])) (semC (.int 1000))))])) semNx))
theorem more_eq : b__law_more = semSeqS (semSet 2 (semBin pAdd (fz (semBin pAdd (fz (semBin pMul (semC (.int 1000)) (fz (semCall cs__law_next [.one (semNh 0)])))) (fz (semCall cs__law_next [.one (semNh 0)])))) (semC (.int 1)))) (semSeqS (semSet 3 (semLst [])) (semSeqS (semFor (.one 4) (semRange1 [.one (semNh 1)]) moreL) (semSeqS (semRet (semBin pAdd (semNh 3) (semNh 0))) semNx))) := rfl
theorem sp_more (l : List Int) (m : Nat) (hm : m ≤ 10000) (h : l.length ≤ 10000) : ∃ l' l2, cs__law_more [.own (.lst (dr l)), .val (.int m)] = .ok (.own (.lst (dr l'))) [.own (.lst (dr l2)), .val (.int m)] := by
  obtain ⟨s', e1, ⟨g, a, b, hs, hl⟩⟩ := forLoop_run (t := .one 4) (b := moreL) (fun i s => ∃ (g : List Int) (a : Int) (b : SV), s = [.own (.lst (dr l.tail.tail)), .val (.int m), .val (.int a), .own (.lst (g.map .int)), b] ∧ g.length = i) (ds := rangeD 0 m) (s := [.own (.lst (dr l.tail.tail)), .val (.int m), .val (.int (1000 * hd l + hd l.tail + 1)), .own (.lst []), .un])
    ⟨[], _, _, rfl, rfl⟩
    (fun i x s hx hs => by
      obtain ⟨g, a, b, rfl, h1⟩ := hs
      have hi : i < m := by have := (List.getElem?_eq_some_iff.mp hx).1; simpa [rangeD] using this
      refine ⟨_, rfl, ?_⟩
      refine ⟨_, .inl ?_, ⟨g ++ [(a * 48271 + 12345) % 2147483647 / 7 % 1000], (a * 48271 + 12345) % 2147483647, .val x, rfl, by simp; omega⟩⟩
      have z3 := len_lt (l := g) (by omega)
      clear h1 hx hi
      unfold moreL
      walk_at "evh")
  subst hs
  have z1 := sp_next l
  have z2 := sp_next l.tail
  have hq : g.length ≤ 10000 := by rw [hl]; simp [rangeD]; omega
  refine ⟨l.tail.tail ++ g.reverse, l.tail.tail, ?_⟩
  have s1 : g.length + l.tail.tail.length ≤ 1000000 := by simp only [List.length_tail]; omega
  have d1 : dr (l.tail.tail ++ g.reverse) = g.map .int ++ dr l.tail.tail := by unfold dr; simp
  have d2 : (dr l.tail.tail).length = l.tail.tail.length := by unfold dr; simp
  rw [d1]
  generalize l.tail.tail = q at *
  generalize dr q = dq at *
  clear hl hq d1
  unfold cs__law_more
  rw [more_eq]
  have hm1 : (m : Int) ≤ 1000000 := by omega
  have hm0 : (-1000000 : Int) ≤ m := by omega
  clear hm
  walk_at "evh"
end
section
/-! ### relations -/
def relD (k m : Int) (rows : List (List Int)) : D := .tuple [.int k, .int m, .tuple (rows.map rwD)]
structure Rl (k m : Int) (rows : List (List Int)) : Prop where
  k2 : 2 ≤ k ∧ k ≤ 3
  m2 : 1 ≤ m ∧ m ≤ 27
  len : rows.length ≤ 4096
  ok : ∀ r ∈ rows, RowOk k m r
  up : UpR rows
theorem zip_next : ∀ {l : List (List Int)}, UpR l → ∀ d ∈ zipD (l.map rwD) (l.map rwD).tail, ∃ a b, d = .tuple [rwD a, rwD b] ∧ ltR a b = true
  | [], _, d, hd => by simp [zipD] at hd
  | [a], _, d, hd => by simp [zipD] at hd
  | a :: b :: l, h, d, hd => by
    have e : zipD ((a :: b :: l).map rwD) ((a :: b :: l).map rwD).tail = .tuple [rwD a, rwD b] :: zipD ((b :: l).map rwD) ((b :: l).map rwD).tail := rfl
    rw [e] at hd
    have h' := List.pairwise_cons.mp h
    rcases List.mem_cons.mp hd with rfl | hd
    · exact ⟨a, b, rfl, h'.1 b (List.mem_cons_self ..)⟩
    · exact zip_next h'.2 d hd
theorem cut_one (l : List D) : cutD l (some 1) none = l.tail := by
  unfold cutD
  have e1 : HT.sIx l.length 0 (some 1) = min 1 l.length := by simp [HT.sIx]
  have e2 : HT.sIx l.length l.length none = l.length := rfl
  rw [e1, e2]
  cases l with
  | nil => rfl
  | cons a l =>
    have : min 1 (a :: l).length = 1 := by simp
    rw [this]
    exact (List.take_of_length_le (by simp)).trans rfl
theorem sp_is_row_of {k m : Int} {r : List Int} (h : RowOk k m r) : cs_is_row_of [.val (.int k), .val (.int m), .val (rwD r)] = .ok (.val (.bool true)) [.val (.int k), .val (.int m), .val (rwD r)] := by
  have hl := h.1
  unfold cs_is_row_of b_is_row_of
  unfold rwD
  walk_at "evh"
  rw [compLoop_map (fun _ => .bool true) _ _ _ rfl ?_]
  · walk_at "evh"
  · intro d hd
    obtain ⟨e, he, rfl⟩ := List.mem_map.mp hd
    obtain ⟨e1, e2⟩ := h.2 e he
    refine ⟨_, rfl, _, rfl, ?_⟩
    walk_at "evh"

theorem sp_is_relation {k m : Int} {rows : List (List Int)} (h : Rl k m rows) : cs_is_relation [.val (relD k m rows)] = .ok (.val (.bool true)) [.val (relD k m rows)] := by
  obtain ⟨k2, m2, len, ok, up⟩ := h
  have c1 : compLoop [4] (.one 4) (fun s => .ok true s) (fz (semCall cs_is_row_of [.one (semNv 1), .one (semNv 2), .one (semNv 4)])) (rows.map rwD) [.val (relD k m rows), .val (.int k), .val (.int m), .val (.tuple (rows.map rwD)), .un, .un, .un] = .ok (rows.map fun _ => .bool true) [.val (relD k m rows), .val (.int k), .val (.int m), .val (.tuple (rows.map rwD)), .un, .un, .un] := by
    refine compLoop_mapOf rwD (fun _ => .bool true) _ _ _ rfl fun r hr => ⟨_, rfl, _, rfl, ?_⟩
    have z := sp_is_row_of (ok r hr)
    clear ok up
    generalize rwD r = d at *
    walk_at "evh"
  have c2 : compLoop [5, 6] (.tup (.cons (.one 5) (.cons (.one 6) .nil))) (fun s => .ok true s) (fz (semBin pLt (semNh 5) (semNh 6))) (zipD (rows.map rwD) (rows.map rwD).tail) [.val (relD k m rows), .val (.int k), .val (.int m), .val (.tuple (rows.map rwD)), .un, .un, .un] = .ok ((zipD (rows.map rwD) (rows.map rwD).tail).map fun _ => .bool true) [.val (relD k m rows), .val (.int k), .val (.int m), .val (.tuple (rows.map rwD)), .un, .un, .un] := by
    refine compLoop_map (fun _ => .bool true) _ _ _ rfl fun d hd => ?_
    obtain ⟨a, b, rfl, hab⟩ := zip_next up d hd
    refine ⟨_, rfl, _, rfl, ?_⟩
    have z := pLt_rows a b
    rw [hab] at z
    clear ok up c1 hd hab
    generalize rwD a = x at *
    generalize rwD b = y at *
    unfold fz semBin semNh
    simp [R.get, app2_eq, ans, z, Re.bind, R.fz]
    rfl
  have e1 := cut_one (rows.map rwD)
  have a1 := pAll_true (rows.map rwD)
  have a1 : pAll [.list (rows.map fun _ => PyData.bool true)] = some (.val (.bool true)) := by
    have := pAll_true (rows.map rwD)
    rw [List.map_map] at this; exact this
  have a2 := pAll_true (zipD (rows.map rwD) (rows.map rwD).tail)
  have n1 : ¬ 3 < k := by omega
  have n2 : ¬ 27 < m := by omega
  have n3 : ¬ (4096 : Int) < (rows.map rwD).length := by simp; omega
  clear ok up
  unfold relD at *
  generalize ez : (zipD (rows.map rwD) (rows.map rwD).tail) = zs at *
  generalize (rows.map fun _ => PyData.bool true) = ts at *
  generalize (zs.map fun _ => PyData.bool true) = us at *
  generalize rows.map rwD = rs at *
  unfold cs_is_relation b_is_relation semZipM
  walk_at "evh"
end
section
/-! ### checks, choices -/
theorem sp_check_operation {k : Int} {d : D} (h : OpOk k d) : cs_check_operation [.val d] = .ok (.val .none) [.val d] := by
  have z := sp_is_operation h
  unfold cs_check_operation b_check_operation
  walk_at "evh"
theorem sp_check_relation {k m : Int} {rows : List (List Int)} (h : Rl k m rows) : cs_check_relation [.val (relD k m rows)] = .ok (.val .none) [.val (relD k m rows)] := by
  have z := sp_is_relation h
  generalize relD k m rows = d at *
  unfold cs_check_relation b_check_relation
  walk_at "evh"
theorem sp_check_one_k {k n m : Int} {t : List Int} {rows : List (List Int)} : cs_check_one_k [.val (opD k n t), .val (relD k m rows)] = .ok (.val .none) [.val (opD k n t), .val (relD k m rows)] := by
  unfold cs_check_one_k b_check_one_k opD relD
  walk_at "ev"
theorem sp_check_asked {k n m : Int} {t : List Int} {rows : List (List Int)} (h : OpOk k (opD k n t)) (hr : Rl k m rows) : cs_check_asked [.val (opD k n t), .val (relD k m rows)] = .ok (.val .none) [.val (opD k n t), .val (relD k m rows)] := by
  have z1 := sp_check_operation h
  have z2 := sp_check_relation hr
  have z3 := sp_check_one_k (k := k) (n := n) (m := m) (t := t) (rows := rows)
  clear hr h
  generalize relD k m rows = d at *
  generalize opD k n t = e at *
  unfold cs_check_asked b_check_asked
  walk_at "evh"
theorem forLoop_step {t : Tg} {b : SemS} {d : D} {ds : List D} {s s1 s2 : Sg} (h1 : t.bind d s = some s1) (h2 : b s1 = .nx s2) : forLoop t b (d :: ds) s = forLoop t b ds s2 := by simp only [forLoop, h1, h2]
def power_of_S2_L1_S1 : SemS := semSet 2 (semCallB pMin [.one (fz (semBin pMul (semNh 2) (semNh 0))), .one (fz (semBin pAdd (semC (.int 300000)) (semC (.int 1))))])
def power_of_S2_L1 : SemS := semSeqS power_of_S2_L1_S1 semNx
def power_of_S1 : SemS := semSet 2 (semC (.int 1))
def power_of_S2 : SemS := semFor (.one 3) (semRange1 [.one (semNh 1)]) power_of_S2_L1
def power_of_S3 : SemS := semRet (semNm 2)
theorem power_of_eq : b_power_of = semSeqS power_of_S1 (semSeqS power_of_S2 (semSeqS power_of_S3 semNx)) := rfl
theorem power_step {N n a b : Int} {x : SV} (hb : bit64 N = true) (h : a * N = b) (hl : b ≤ 300001) : power_of_S2_L1 [.val (.int N), .val (.int n), .val (.int a), x] = .nx [.val (.int N), .val (.int n), .val (.int b), x] := by
  have l : ¬ 300001 < b := by omega
  unfold power_of_S2_L1 power_of_S2_L1_S1
  walk_at "evh"
theorem sp_power {N n : Int} (h : 0 ≤ N ∧ N ≤ 27) (hn : n = 1 ∨ n = 2 ∨ n = 3) : ∃ q : Int, q ≤ 300000 ∧ cs_power_of [.val (.int N), .val (.int n)] = .ok (.val (.int q)) [.val (.int N), .val (.int n)] := by
  have e2 : 0 ≤ N * N ∧ N * N ≤ 729 := ⟨Int.mul_nonneg h.1 h.1, by have := Int.mul_le_mul h.2 h.2 h.1 (by decide); omega⟩
  have e3 : 0 ≤ N * N * N ∧ N * N * N ≤ 19683 := ⟨Int.mul_nonneg e2.1 h.1, by have := Int.mul_le_mul e2.2 h.2 h.1 (by decide); omega⟩
  have b : bit64 N = true := absLe_iff.mpr (by omega)
  have fin : ∀ q : Int, forLoop (.one 3) power_of_S2_L1 (rangeD 0 n.toNat) [.val (.int N), .val (.int n), .val (.int 1), .un] = .nx [.val (.int N), .val (.int n), .val (.int q), .val (.int (n - 1))] → cs_power_of [.val (.int N), .val (.int n)] = .ok (.val (.int q)) [.val (.int N), .val (.int n)] := fun q e => by
    have r1 : (-1000000 : Int) ≤ n := by omega
    have r2 : n ≤ 1000000 := by omega
    clear h hn e2 e3
    unfold cs_power_of
    rw [power_of_eq]
    unfold power_of_S1 power_of_S2 power_of_S3
    generalize power_of_S2_L1 = L at *
    walk_at "evh"
  have s1 : ∀ (x : SV), power_of_S2_L1 [.val (.int N), .val (.int n), .val (.int 1), x] = .nx [.val (.int N), .val (.int n), .val (.int N), x] := fun x => power_step b (by omega) (by omega)
  have s2 : ∀ (x : SV), power_of_S2_L1 [.val (.int N), .val (.int n), .val (.int N), x] = .nx [.val (.int N), .val (.int n), .val (.int (N * N)), x] := fun x => power_step b rfl (by omega)
  have s3 : ∀ (x : SV), power_of_S2_L1 [.val (.int N), .val (.int n), .val (.int (N * N)), x] = .nx [.val (.int N), .val (.int n), .val (.int (N * N * N)), x] := fun x => power_step b rfl (by omega)
  rcases hn with rfl | rfl | rfl
  · refine ⟨N, by omega, fin _ ?_⟩
    rw [show rangeD 0 (Int.toNat 1) = [PyData.int 0] from rfl]
    rw [forLoop_step (s1 := [.val (.int N), .val (.int 1), .val (.int (1)), .val (.int 0)]) rfl (s1 _)]
    rfl
  · refine ⟨N * N, by omega, fin _ ?_⟩
    rw [show rangeD 0 (Int.toNat 2) = [PyData.int 0, PyData.int 1] from rfl]
    rw [forLoop_step (s1 := [.val (.int N), .val (.int 2), .val (.int (1)), .val (.int 0)]) rfl (s1 _)]
    rw [forLoop_step (s1 := [.val (.int N), .val (.int 2), .val (.int (N)), .val (.int 1)]) rfl (s2 _)]
    rfl
  · refine ⟨N * N * N, by omega, fin _ ?_⟩
    rw [show rangeD 0 (Int.toNat 3) = [PyData.int 0, PyData.int 1, PyData.int 2] from rfl]
    rw [forLoop_step (s1 := [.val (.int N), .val (.int 3), .val (.int (1)), .val (.int 0)]) rfl (s1 _)]
    rw [forLoop_step (s1 := [.val (.int N), .val (.int 3), .val (.int (N)), .val (.int 1)]) rfl (s2 _)]
    rw [forLoop_step (s1 := [.val (.int N), .val (.int 3), .val (.int (N * N)), .val (.int 2)]) rfl (s3 _)]
    rfl
end
section
/-! ### choices of rows -/
def choices_S1 : SemS := semSet 2 (semLst [.one (fz (semTup []))])
def choices_S2_L1_S1 : SemS := semSet 4 (semLst [])
def choices_S2_L1_S2_L1_S1_C1 : Sem := fz (semTup [.star (semNv 5), .one (semNv 6)])
def choices_S2_L1_S2_L1_S1 : SemS := semExpr (semMut "list" mExtend 4 [.one (fz (semComp [6] (.one 6) (semSeq (semNv 0)) (fun s => .ok true s) choices_S2_L1_S2_L1_S1_C1))])
def choices_S2_L1_S2_L1 : SemS := semSeqS choices_S2_L1_S2_L1_S1 semNx
def choices_S2_L1_S2 : SemS := semFor (.one 5) (semSeq (semNv 2)) choices_S2_L1_S2_L1
def choices_S2_L1_S3 : SemS := semSet 2 (semNv 4)
def choices_S2_L1 : SemS := semSeqS choices_S2_L1_S1 (semSeqS choices_S2_L1_S2 (semSeqS choices_S2_L1_S3 semNx))
def choices_S2 : SemS := semFor (.one 3) (semRange1 [.one (semNh 1)]) choices_S2_L1
def choices_S3 : SemS := semRet (semNm 2)
theorem choices_eq : b_choices = semSeqS choices_S1 (semSeqS choices_S2 (semSeqS choices_S3 semNx)) := rfl
def law_choices_S1 : SemS := semSet 2 (semLst [.one (fz (semTup []))])
def law_choices_S2_L1_S1 : SemS := semSet 4 (semLst [])
def law_choices_S2_L1_S2_L1_S1_C1 : Sem := fz (semBin pAdd (semNh 5) (fz (semTup [.one (semNv 6)])))
def law_choices_S2_L1_S2_L1_S1 : SemS := semExpr (semMut "list" mExtend 4 [.one (fz (semComp [6] (.one 6) (semSeq (semNv 0)) (fun s => .ok true s) law_choices_S2_L1_S2_L1_S1_C1))])
def law_choices_S2_L1_S2_L1 : SemS := semSeqS law_choices_S2_L1_S2_L1_S1 semNx
def law_choices_S2_L1_S2 : SemS := semFor (.one 5) (semSeq (semNv 2)) law_choices_S2_L1_S2_L1
def law_choices_S2_L1_S3 : SemS := semSet 2 (semNv 4)
def law_choices_S2_L1 : SemS := semSeqS law_choices_S2_L1_S1 (semSeqS law_choices_S2_L1_S2 (semSeqS law_choices_S2_L1_S3 semNx))
def law_choices_S2 : SemS := semFor (.one 3) (semRange1 [.one (semNh 1)]) law_choices_S2_L1
def law_choices_S3 : SemS := semRet (semNm 2)
theorem law_choices_eq : b__law_choices = semSeqS law_choices_S1 (semSeqS law_choices_S2 (semSeqS law_choices_S3 semNx)) := rfl
def chI (rows : List (List Int)) : Nat → List (List (List Int))
  | 0 => [[]]
  | n + 1 => ((chI rows n).map fun s => rows.map fun r => s ++ [r]).flatten
def chD (s : List (List Int)) : D := .tuple (s.map rwD)
theorem chI_len (rows : List (List Int)) : ∀ n, (chI rows n).length = rows.length ^ n
  | 0 => rfl
  | n + 1 => by
    simp only [chI, List.length_flatten, List.map_map, Function.comp_def, List.length_map, List.map_const', List.sum_replicate_nat, chI_len rows n, Nat.pow_succ]
theorem chI_mem {rows : List (List Int)} : ∀ {n : Nat} {s : List (List Int)}, s ∈ chI rows n → s.length = n ∧ ∀ r ∈ s, r ∈ rows
  | 0, s, h => by simp only [chI, List.mem_singleton] at h; subst h; exact ⟨rfl, fun r hr => by cases hr⟩
  | n + 1, s, h => by
    simp only [chI, List.mem_flatten, List.mem_map] at h
    obtain ⟨_, ⟨q, hq, rfl⟩, h⟩ := h
    obtain ⟨r, hr, rfl⟩ := List.mem_map.mp h
    obtain ⟨h1, h2⟩ := chI_mem hq
    exact ⟨by simp [h1], fun x hx => by
      rcases List.mem_append.mp hx with hx | hx
      · exact h2 x hx
      · rw [List.mem_singleton] at hx; subst hx; exact hr⟩
def chStep (rows : List (List Int)) (acc : List D) (s : List (List Int)) : List D := acc ++ rows.map fun r => chD (s ++ [r])
theorem chStep_all (rows : List (List Int)) : ∀ (ss : List (List (List Int))) (acc : List D), ss.foldl (chStep rows) acc = acc ++ ((ss.map fun s => rows.map fun r => s ++ [r]).flatten).map chD
  | [], acc => by simp
  | s :: ss, acc => by
    rw [List.foldl_cons, chStep_all rows ss]
    simp [chStep, List.append_assoc, Function.comp_def]
theorem valsOf_one : ∀ (xs : List D) (d : D), valsOf (xs.map R.val ++ [R.val d]) = some (xs ++ [d])
  | [], d => rfl
  | x :: xs, d => by simp [valsOf, valsOf_one xs d]
theorem choices_elt {rows : List (List Int)} {n : D} {a b c x : SV} {sq : D} {s : List (List Int)} (hs : s.length ≤ 100) (hq : seqOf sq = some (rows.map rwD)) :
    compLoop [6] (.one 6) (fun s => .ok true s) choices_S2_L1_S2_L1_S1_C1 (rows.map rwD) [.val sq, .val n, a, b, c, .val (chD s), .un] = .ok (rows.map fun r => chD (s ++ [r])) [.val sq, .val n, a, b, c, .val (chD s), .un] := by
  refine compLoop_mapOf rwD _ _ _ _ rfl fun r hr => ⟨_, rfl, _, rfl, ?_⟩
  unfold choices_S2_L1_S2_L1_S1_C1 chD
  have z : (s.map rwD).length + 1 ≤ 1000000 := by simp; omega
  rw [List.map_append]
  generalize s.map rwD = xs at *
  simp only [List.map_cons, List.map_nil]
  generalize rwD r = d at *
  have zv := valsOf_one xs d
  clear hs hq hr
  walk_at "evh"
theorem lchoices_elt {rows : List (List Int)} {n : D} {a b c x : SV} {sq : D} {s : List (List Int)} (hs : s.length ≤ 100) (hq : seqOf sq = some (rows.map rwD)) :
    compLoop [6] (.one 6) (fun s => .ok true s) law_choices_S2_L1_S2_L1_S1_C1 (rows.map rwD) [.val sq, .val n, a, b, c, .val (chD s), .un] = .ok (rows.map fun r => chD (s ++ [r])) [.val sq, .val n, a, b, c, .val (chD s), .un] := by
  refine compLoop_mapOf rwD _ _ _ _ rfl fun r hr => ⟨_, rfl, _, rfl, ?_⟩
  unfold law_choices_S2_L1_S2_L1_S1_C1 chD
  have z : (s.map rwD).length + 1 ≤ 1000000 := by simp; omega
  rw [List.map_append]
  generalize s.map rwD = xs at *
  simp only [List.map_cons, List.map_nil]
  generalize rwD r = d at *
  have zv := valsOf_one xs d
  clear hs hq hr
  walk_at "evh"
end
section
/-! ### choices, the loops -/
theorem seq_cases {sq : D} {xs : List D} (h : seqOf sq = some xs) : sq = .list xs ∨ sq = .tuple xs := by
  cases sq <;> simp only [seqOf] at h <;> cases h
  · exact .inl rfl
  · exact .inr rfl
theorem choices_in {rows : List (List Int)} {n : D} {a b : SV} {sq : D} (hq : seqOf sq = some (rows.map rwD)) (hr : rows.length ≤ 30) : ∀ (ss : List (List (List Int))) (acc : List D) (x : SV), (∀ s ∈ ss, s.length ≤ 100) → acc.length + ss.length * rows.length ≤ 100000 →
    ∃ x', forLoop (.one 5) choices_S2_L1_S2_L1 (ss.map chD) [.val sq, .val n, a, b, .own (.lst acc), x, .un] = .nx [.val sq, .val n, a, b, .own (.lst (ss.foldl (chStep rows) acc)), x', .un]
  | [], acc, x, _, _ => ⟨x, rfl⟩
  | s :: ss, acc, x, h1, h2 => by
    have hl : acc.length + rows.length ≤ 100000 := by rw [List.length_cons, Nat.succ_mul] at h2; omega
    have e := choices_elt (n := n) (a := a) (b := b) (c := .own (.lst acc)) (x := .un) (s := s) (h1 s (List.mem_cons_self ..)) hq
    have hz : acc.length + (rows.map fun r => chD (s ++ [r])).length ≤ 1000000 := by simp; omega
    have st : choices_S2_L1_S2_L1 [.val sq, .val n, a, b, .own (.lst acc), .val (chD s), .un] = .nx [.val sq, .val n, a, b, .own (.lst (chStep rows acc s)), .val (chD s), .un] := by
      unfold choices_S2_L1_S2_L1 choices_S2_L1_S2_L1_S1 chStep
      generalize choices_S2_L1_S2_L1_S1_C1 = C at *
      generalize (rows.map fun r => chD (s ++ [r])) = ys at *
      generalize rows.map rwD = rs at *
      generalize chD s = d at *
      clear h1 h2 hl hr
      rcases seq_cases hq with rfl | rfl
      · clear hq
        walk_at "evh"
      · clear hq
        walk_at "evh"
    obtain ⟨x', ih⟩ := choices_in (n := n) (a := a) (b := b) hq hr ss (chStep rows acc s) (.val (chD s)) (fun q hq => h1 q (List.mem_cons_of_mem _ hq)) (by
      unfold chStep
      rw [List.length_append, List.length_map]
      rw [List.length_cons, Nat.succ_mul] at h2; omega)
    refine ⟨x', ?_⟩
    rw [List.map_cons, forLoop_step (s1 := [.val sq, .val n, a, b, .own (.lst acc), .val (chD s), .un]) rfl st]
    exact ih
theorem choices_turn {rows : List (List Int)} {n i : D} {x3 x4 x5 : SV} {sq : D} {ss : List (List (List Int))} {d2 : SV} (h2 : d2 = .val (.list (ss.map chD)) ∨ d2 = .own (.lst (ss.map chD))) (hq : seqOf sq = some (rows.map rwD)) (hr : rows.length ≤ 30) (h1 : ∀ s ∈ ss, s.length ≤ 100) (hl : ss.length * rows.length ≤ 100000) :
    ∃ x', choices_S2_L1 [.val sq, .val n, d2, .val i, x4, x5, .un] = .nx [.val sq, .val n, .val (.list (((ss.map fun s => rows.map fun r => s ++ [r]).flatten).map chD)), .val i, .val (.list (((ss.map fun s => rows.map fun r => s ++ [r]).flatten).map chD)), x', .un] := by
  have key : ∀ z, ∃ x', forLoop (.one 5) choices_S2_L1_S2_L1 (ss.map chD) [.val sq, .val n, z, .val i, .own (.lst []), x5, .un] = .nx [.val sq, .val n, z, .val i, .own (.lst (((ss.map fun s => rows.map fun r => s ++ [r]).flatten).map chD)), x', .un] := fun z => by
    have := choices_in (n := n) (a := z) (b := .val i) hq hr ss [] x5 h1 (by simpa using hl)
    rw [chStep_all] at this
    exact this
  generalize (((ss.map fun s => rows.map fun r => s ++ [r]).flatten).map chD) = ys at *
  generalize ss.map chD = zs at *
  rcases h2 with rfl | rfl
  · obtain ⟨x', e⟩ := key (.val (.list zs))
    refine ⟨x', ?_⟩
    clear key h1 hl hq hr
    unfold choices_S2_L1 choices_S2_L1_S1 choices_S2_L1_S2 choices_S2_L1_S3
    generalize choices_S2_L1_S2_L1 = L at *
    walk_at "evh"
  · obtain ⟨x', e⟩ := key (.val (.list zs))
    refine ⟨x', ?_⟩
    clear key h1 hl hq hr
    unfold choices_S2_L1 choices_S2_L1_S1 choices_S2_L1_S2 choices_S2_L1_S3
    generalize choices_S2_L1_S2_L1 = L at *
    walk_at "evh"
theorem law_choices_in {rows : List (List Int)} {n : D} {a b : SV} {sq : D} (hq : seqOf sq = some (rows.map rwD)) (hr : rows.length ≤ 30) : ∀ (ss : List (List (List Int))) (acc : List D) (x : SV), (∀ s ∈ ss, s.length ≤ 100) → acc.length + ss.length * rows.length ≤ 100000 →
    ∃ x', forLoop (.one 5) law_choices_S2_L1_S2_L1 (ss.map chD) [.val sq, .val n, a, b, .own (.lst acc), x, .un] = .nx [.val sq, .val n, a, b, .own (.lst (ss.foldl (chStep rows) acc)), x', .un]
  | [], acc, x, _, _ => ⟨x, rfl⟩
  | s :: ss, acc, x, h1, h2 => by
    have hl : acc.length + rows.length ≤ 100000 := by rw [List.length_cons, Nat.succ_mul] at h2; omega
    have e := lchoices_elt (n := n) (a := a) (b := b) (c := .own (.lst acc)) (x := .un) (s := s) (h1 s (List.mem_cons_self ..)) hq
    have hz : acc.length + (rows.map fun r => chD (s ++ [r])).length ≤ 1000000 := by simp; omega
    have st : law_choices_S2_L1_S2_L1 [.val sq, .val n, a, b, .own (.lst acc), .val (chD s), .un] = .nx [.val sq, .val n, a, b, .own (.lst (chStep rows acc s)), .val (chD s), .un] := by
      unfold law_choices_S2_L1_S2_L1 law_choices_S2_L1_S2_L1_S1 chStep
      generalize law_choices_S2_L1_S2_L1_S1_C1 = C at *
      generalize (rows.map fun r => chD (s ++ [r])) = ys at *
      generalize rows.map rwD = rs at *
      generalize chD s = d at *
      clear h1 h2 hl hr
      rcases seq_cases hq with rfl | rfl
      · clear hq
        walk_at "evh"
      · clear hq
        walk_at "evh"
    obtain ⟨x', ih⟩ := law_choices_in (n := n) (a := a) (b := b) hq hr ss (chStep rows acc s) (.val (chD s)) (fun q hq => h1 q (List.mem_cons_of_mem _ hq)) (by
      unfold chStep
      rw [List.length_append, List.length_map]
      rw [List.length_cons, Nat.succ_mul] at h2; omega)
    refine ⟨x', ?_⟩
    rw [List.map_cons, forLoop_step (s1 := [.val sq, .val n, a, b, .own (.lst acc), .val (chD s), .un]) rfl st]
    exact ih
theorem law_choices_turn {rows : List (List Int)} {n i : D} {x3 x4 x5 : SV} {sq : D} {ss : List (List (List Int))} {d2 : SV} (h2 : d2 = .val (.list (ss.map chD)) ∨ d2 = .own (.lst (ss.map chD))) (hq : seqOf sq = some (rows.map rwD)) (hr : rows.length ≤ 30) (h1 : ∀ s ∈ ss, s.length ≤ 100) (hl : ss.length * rows.length ≤ 100000) :
    ∃ x', law_choices_S2_L1 [.val sq, .val n, d2, .val i, x4, x5, .un] = .nx [.val sq, .val n, .val (.list (((ss.map fun s => rows.map fun r => s ++ [r]).flatten).map chD)), .val i, .val (.list (((ss.map fun s => rows.map fun r => s ++ [r]).flatten).map chD)), x', .un] := by
  have key : ∀ z, ∃ x', forLoop (.one 5) law_choices_S2_L1_S2_L1 (ss.map chD) [.val sq, .val n, z, .val i, .own (.lst []), x5, .un] = .nx [.val sq, .val n, z, .val i, .own (.lst (((ss.map fun s => rows.map fun r => s ++ [r]).flatten).map chD)), x', .un] := fun z => by
    have := law_choices_in (n := n) (a := z) (b := .val i) hq hr ss [] x5 h1 (by simpa using hl)
    rw [chStep_all] at this
    exact this
  generalize (((ss.map fun s => rows.map fun r => s ++ [r]).flatten).map chD) = ys at *
  generalize ss.map chD = zs at *
  rcases h2 with rfl | rfl
  · obtain ⟨x', e⟩ := key (.val (.list zs))
    refine ⟨x', ?_⟩
    clear key h1 hl hq hr
    unfold law_choices_S2_L1 law_choices_S2_L1_S1 law_choices_S2_L1_S2 law_choices_S2_L1_S3
    generalize law_choices_S2_L1_S2_L1 = L at *
    walk_at "evh"
  · obtain ⟨x', e⟩ := key (.val (.list zs))
    refine ⟨x', ?_⟩
    clear key h1 hl hq hr
    unfold law_choices_S2_L1 law_choices_S2_L1_S1 law_choices_S2_L1_S2 law_choices_S2_L1_S3
    generalize law_choices_S2_L1_S2_L1 = L at *
    walk_at "evh"
end
section
/-! ### choices, whole -/
theorem choices_one {rows : List (List Int)} {N i : Nat} {x3 x4 x5 : SV} {sq : D} {d2 : SV} (hi : i ≤ 2) (h2 : d2 = .val (.list ((chI rows i).map chD)) ∨ d2 = .own (.lst ((chI rows i).map chD))) (hq : seqOf sq = some (rows.map rwD)) (hr : rows.length ≤ 27) :
    ∃ y x', choices_S2_L1 [.val sq, .val (.int N), d2, .val (.int i), x4, x5, .un] = .nx [.val sq, .val (.int N), .val (.list ((chI rows (i + 1)).map chD)), .val (.int i), y, x', .un] := by
  have hp : rows.length ^ i * rows.length ≤ 100000 := by
    have p1 : rows.length ^ i * rows.length ≤ 27 ^ i * 27 := Nat.mul_le_mul (Nat.pow_le_pow_left hr i) hr
    have p2 : 27 ^ i ≤ 27 ^ 2 := Nat.pow_le_pow_right (by decide) hi
    omega
  obtain ⟨x', e⟩ := choices_turn (n := .int N) (i := .int i) (x3 := .un) (x4 := x4) (x5 := x5) (ss := chI rows i) h2 hq (by omega) (fun s hs => by have := (chI_mem hs).1; omega) (by rw [chI_len]; exact hp)
  exact ⟨_, x', e⟩
theorem choices_loop {rows : List (List Int)} {N : Nat} {sq : D} (hq : seqOf sq = some (rows.map rwD)) (hr : rows.length ≤ 27) : ∀ (j i : Nat) (x3 x4 x5 d2 : SV), i + j ≤ 3 → 0 < j → (d2 = .val (.list ((chI rows i).map chD)) ∨ d2 = .own (.lst ((chI rows i).map chD))) →
    ∃ y z x', forLoop (.one 3) choices_S2_L1 (rangeD i j) [.val sq, .val (.int N), d2, x3, x4, x5, .un] = .nx [.val sq, .val (.int N), .val (.list ((chI rows (i + j)).map chD)), z, y, x', .un]
  | j + 1, i, x3, x4, x5, d2, hj, _, h2 => by
    obtain ⟨y, x', e⟩ := choices_one (N := N) (x3 := .un) (x4 := x4) (x5 := x5) (by omega) h2 hq hr
    have er : rangeD i (j + 1) = .int i :: rangeD (i + 1) j := by
      unfold rangeD
      rw [List.range_succ_eq_map, List.map_cons, List.map_map]
      have e0 : PyData.int ((i : Int) + (0 : Nat)) = .int i := by simp
      rw [e0]
      exact congrArg _ (List.map_congr_left fun a _ => by
        simp only [Function.comp, PyData.int.injEq]
        omega)
    rw [er, forLoop_step (s1 := [.val sq, .val (.int N), d2, .val (.int i), x4, x5, .un]) rfl e]
    cases j with
    | zero => exact ⟨_, _, _, rfl⟩
    | succ j =>
      obtain ⟨y2, z2, w2, e2⟩ := choices_loop (N := N) hq hr (j + 1) (i + 1) (.val (.int i)) y x' _ (by omega) (by omega) (.inl rfl)
      refine ⟨y2, z2, w2, ?_⟩
      rw [show i + (j + 1 + 1) = i + 1 + (j + 1) from by omega]
      exact e2
theorem sp_choices {rows : List (List Int)} {n : Int} {sq : D} (hq : seqOf sq = some (rows.map rwD)) (hr : rows.length ≤ 27) (hn : 1 ≤ n ∧ n ≤ 3) : cs_choices [.val sq, .val (.int n)] = .ok (.val (.list ((chI rows n.toNat).map chD))) [.val sq, .val (.int n)] := by
  obtain ⟨N, rfl⟩ : ∃ N : Nat, n = N := ⟨n.toNat, by omega⟩
  obtain ⟨y, z, x', e⟩ := choices_loop (N := N) hq hr N 0 .un .un .un (.own (.lst [chD []])) (by omega) (by omega) (.inr rfl)
  have r1 : (-1000000 : Int) ≤ N := by omega
  have r2 : (N : Int) ≤ 1000000 := by omega
  have e : forLoop (.one 3) choices_S2_L1 (rangeD 0 N) [.val sq, .val (.int N), .own (.lst [.tuple []]), .un, .un, .un, .un] = .nx [.val sq, .val (.int N), .val (.list ((chI rows N).map chD)), z, y, x', .un] := by
    rw [Nat.zero_add] at e; exact e
  rw [Int.toNat_natCast]
  generalize (chI rows N).map chD = cs at *
  clear hq hr hn
  unfold cs_choices
  rw [choices_eq]
  unfold choices_S1 choices_S2 choices_S3
  generalize choices_S2_L1 = L at *
  walk_at "evh"
theorem law_choices_one {rows : List (List Int)} {N i : Nat} {x3 x4 x5 : SV} {sq : D} {d2 : SV} (hi : i ≤ 2) (h2 : d2 = .val (.list ((chI rows i).map chD)) ∨ d2 = .own (.lst ((chI rows i).map chD))) (hq : seqOf sq = some (rows.map rwD)) (hr : rows.length ≤ 27) :
    ∃ y x', law_choices_S2_L1 [.val sq, .val (.int N), d2, .val (.int i), x4, x5, .un] = .nx [.val sq, .val (.int N), .val (.list ((chI rows (i + 1)).map chD)), .val (.int i), y, x', .un] := by
  have hp : rows.length ^ i * rows.length ≤ 100000 := by
    have p1 : rows.length ^ i * rows.length ≤ 27 ^ i * 27 := Nat.mul_le_mul (Nat.pow_le_pow_left hr i) hr
    have p2 : 27 ^ i ≤ 27 ^ 2 := Nat.pow_le_pow_right (by decide) hi
    omega
  obtain ⟨x', e⟩ := law_choices_turn (n := .int N) (i := .int i) (x3 := .un) (x4 := x4) (x5 := x5) (ss := chI rows i) h2 hq (by omega) (fun s hs => by have := (chI_mem hs).1; omega) (by rw [chI_len]; exact hp)
  exact ⟨_, x', e⟩
theorem law_choices_loop {rows : List (List Int)} {N : Nat} {sq : D} (hq : seqOf sq = some (rows.map rwD)) (hr : rows.length ≤ 27) : ∀ (j i : Nat) (x3 x4 x5 d2 : SV), i + j ≤ 3 → 0 < j → (d2 = .val (.list ((chI rows i).map chD)) ∨ d2 = .own (.lst ((chI rows i).map chD))) →
    ∃ y z x', forLoop (.one 3) law_choices_S2_L1 (rangeD i j) [.val sq, .val (.int N), d2, x3, x4, x5, .un] = .nx [.val sq, .val (.int N), .val (.list ((chI rows (i + j)).map chD)), z, y, x', .un]
  | j + 1, i, x3, x4, x5, d2, hj, _, h2 => by
    obtain ⟨y, x', e⟩ := law_choices_one (N := N) (x3 := .un) (x4 := x4) (x5 := x5) (by omega) h2 hq hr
    have er : rangeD i (j + 1) = .int i :: rangeD (i + 1) j := by
      unfold rangeD
      rw [List.range_succ_eq_map, List.map_cons, List.map_map]
      have e0 : PyData.int ((i : Int) + (0 : Nat)) = .int i := by simp
      rw [e0]
      exact congrArg _ (List.map_congr_left fun a _ => by
        simp only [Function.comp, PyData.int.injEq]
        omega)
    rw [er, forLoop_step (s1 := [.val sq, .val (.int N), d2, .val (.int i), x4, x5, .un]) rfl e]
    cases j with
    | zero => exact ⟨_, _, _, rfl⟩
    | succ j =>
      obtain ⟨y2, z2, w2, e2⟩ := law_choices_loop (N := N) hq hr (j + 1) (i + 1) (.val (.int i)) y x' _ (by omega) (by omega) (.inl rfl)
      refine ⟨y2, z2, w2, ?_⟩
      rw [show i + (j + 1 + 1) = i + 1 + (j + 1) from by omega]
      exact e2
theorem sp_law_choices {rows : List (List Int)} {n : Int} {sq : D} (hq : seqOf sq = some (rows.map rwD)) (hr : rows.length ≤ 27) (hn : 1 ≤ n ∧ n ≤ 3) : cs__law_choices [.val sq, .val (.int n)] = .ok (.val (.list ((chI rows n.toNat).map chD))) [.val sq, .val (.int n)] := by
  obtain ⟨N, rfl⟩ : ∃ N : Nat, n = N := ⟨n.toNat, by omega⟩
  obtain ⟨y, z, x', e⟩ := law_choices_loop (N := N) hq hr N 0 .un .un .un (.own (.lst [chD []])) (by omega) (by omega) (.inr rfl)
  have r1 : (-1000000 : Int) ≤ N := by omega
  have r2 : (N : Int) ≤ 1000000 := by omega
  have e : forLoop (.one 3) law_choices_S2_L1 (rangeD 0 N) [.val sq, .val (.int N), .own (.lst [.tuple []]), .un, .un, .un, .un] = .nx [.val sq, .val (.int N), .val (.list ((chI rows N).map chD)), z, y, x', .un] := by
    rw [Nat.zero_add] at e; exact e
  rw [Int.toNat_natCast]
  generalize (chI rows N).map chD = cs at *
  clear hq hr hn
  unfold cs__law_choices
  rw [law_choices_eq]
  unfold law_choices_S1 law_choices_S2 law_choices_S3
  generalize law_choices_S2_L1 = L at *
  walk_at "evh"
end
section
/-! ### rows made -/
def made_of_S1 : SemS := semAsg (.tup (.cons (.one 2) (.cons (.one 3) (.cons (.one 4) .nil)))) (semNv 0)
def made_of_S2_C1 : Sem := fz (semBin pSub1 (semNh 4) (fz (semCall cs_index_of [.one (semNv 2), .one (semNv 5)])))
def made_of_S2 : SemS := semRet (semCallB pTuple [.one (fz (semComp [5] (.one 5) (semZipS (semNh 1)) (fun s => .ok true s) made_of_S2_C1))])
theorem made_of_eq : b_made_of = semSeqS made_of_S1 (semSeqS made_of_S2 semNx) := rfl
def law_made_of_S1_C1 : Sem := fz (semBin pSub1 (semNh 3) (semNh 2))
def law_made_of_S1_C2 : Sem := fz (semCall cs__law_value [.one (semNv 0), .one (fz (semComp [3] (.one 3) (semSeq (semNv 1)) (fun s => .ok true s) law_made_of_S1_C1))])
def law_made_of_S1 : SemS := semRet (semCallB pTuple [.one (fz (semComp [2] (.one 2) (semRange1 [.one (fz (semCallB pLen [.one (fz (semBin pSub1 (semNh 1) (semC (.int 0))))]))]) (fun s => .ok true s) law_made_of_S1_C2))])
theorem law_made_of_eq : b__law_made_of = semSeqS law_made_of_S1 semNx := rfl
def colI (s : List (List Int)) (j : Nat) : List Int := s.map fun r => r.getD j 0
def mkI (d : D) (m : Nat) (s : List (List Int)) : List Int := (List.range m).map fun j => opv d (colI s j)
theorem colI_ok {k n : Int} {m j : Nat} {s : List (List Int)} (h : ∀ r ∈ s, RowOk k m r) (hn : (s.length : Int) = n) (hj : j < m) : RowOk k n (colI s j) := ⟨by simp [colI, hn], fun e he => by
  obtain ⟨r, hr, rfl⟩ := List.mem_map.mp he
  obtain ⟨h1, h2⟩ := h r hr
  have hj' : j < r.length := by omega
  rw [List.getD_eq_getElem?_getD, List.getElem?_eq_getElem hj']
  exact h2 _ (List.getElem_mem hj')⟩
theorem zrows_rows : ∀ s : List (List Int), zrowsOf (s.map rwD) = some (s.map fun r => r.map .int)
  | [] => rfl
  | r :: s => by simp only [List.map_cons, rwD, zrowsOf]; rw [zrows_rows s]; rfl
theorem cols_rows {k : Int} {m : Nat} {s : List (List Int)} (h : ∀ r ∈ s, RowOk k m r) (h0 : 0 < s.length) (h4 : s.length ≤ 4) : colsOf (s.map rwD) = some ((List.range m).map fun j => rwD (colI s j)) := by
  have hm : ∀ r ∈ s, r.length = m := fun r hr => by have := (h r hr).1; omega
  have e0 : ((s.map fun r => r.map PyData.int).headD []).length = m := by
    cases s with
    | nil => simp at h0
    | cons r s => simpa using hm r (List.mem_cons_self ..)
  have ea : ((s.map fun r => r.map PyData.int).all fun r => decide (r.length = m)) = true := by
    rw [List.all_map, List.all_eq_true]
    intro r hr
    simp [hm r hr]
  unfold colsOf
  simp only [zrows_rows, Option.bind, List.length_map, e0, ea, Bool.and_true, decide_eq_true h0, decide_eq_true h4, Bool.and_self, if_true, Option.some.injEq]
  refine List.map_congr_left fun j hj => ?_
  have hj := List.mem_range.mp hj
  unfold rwD colI
  rw [List.map_map, List.map_map]
  refine congrArg _ (List.map_congr_left fun r hr => ?_)
  have hl : j < r.length := by rw [hm r hr]; exact hj
  simp [List.getD_eq_getElem?_getD, List.getElem?_eq_getElem hl]
theorem mkI_ok {k n : Int} {t : List Int} {m : Nat} {s : List (List Int)} (ho : OpOk k (opD k n t)) (h : ∀ r ∈ s, RowOk k m r) (hn : (s.length : Int) = n) : RowOk k m (mkI (opD k n t) m s) := ⟨by simp [mkI], fun e he => by
  obtain ⟨j, hj, rfl⟩ := List.mem_map.mp he
  exact (opv_at ho (colI_ok h hn (List.mem_range.mp hj))).2⟩
theorem kns_n {k : Int} {n : Int} {t : List Int} (h : OpOk k (opD k n t)) : n = 1 ∨ n = 2 ∨ n = 3 := by
  obtain ⟨n', t', e, h1, -⟩ := h
  simp only [opD, PyData.tuple.injEq, List.cons.injEq, PyData.int.injEq, and_true, true_and] at e
  obtain ⟨rfl, -⟩ := e
  exact kns_cases (P := fun _ n _ => n = 1 ∨ n = 2 ∨ n = 3) h1 (by decide) (by decide) (by decide) (by decide) (by decide) (by decide)
theorem sp_made_of {k n : Int} {t : List Int} {m : Nat} {s : List (List Int)} (ho : OpOk k (opD k n t)) (h : ∀ r ∈ s, RowOk k m r) (hn : (s.length : Int) = n) : cs_made_of [.val (opD k n t), .val (chD s)] = .ok (.val (rwD (mkI (opD k n t) m s))) [.val (opD k n t), .val (chD s)] := by
  have h3 := kns_n ho
  have c := cols_rows h (by omega) (by omega)
  have e : compLoop [5] (.one 5) (fun s => .ok true s) made_of_S2_C1 ((List.range m).map fun j => rwD (colI s j)) [.val (opD k n t), .val (chD s), .val (.int k), .val (.int n), .val (.tuple (t.map .int)), .un] = .ok ((List.range m).map fun j => .int (opv (opD k n t) (colI s j))) [.val (opD k n t), .val (chD s), .val (.int k), .val (.int n), .val (.tuple (t.map .int)), .un] := by
    refine compLoop_mapOf (fun j => rwD (colI s j)) (fun j => .int (opv (opD k n t) (colI s j))) _ _ _ rfl fun j hj => ⟨_, rfl, _, rfl, ?_⟩
    have hr := colI_ok h hn (List.mem_range.mp hj)
    have z1 := sp_index_of (k := k) (sq := rwD (colI s j)) (row := colI s j) ho.k23 rfl
    have z2 := (opv_at ho hr).1
    generalize opv (opD k n t) (colI s j) = v at *
    generalize idx k (colI s j) = i at *
    generalize rwD (colI s j) = d at *
    clear c hr h ho
    generalize opD k n t = o at *
    generalize t.map PyData.int = ts at *
    unfold made_of_S2_C1
    walk_at "evh"
  have er : rwD (mkI (opD k n t) m s) = .tuple ((List.range m).map fun j => .int (opv (opD k n t) (colI s j))) := by
    unfold rwD mkI; rw [List.map_map]; rfl
  rw [er]
  clear er
  generalize ((List.range m).map fun j => PyData.int (opv (opD k n t) (colI s j))) = vs at *
  generalize ((List.range m).map fun j => rwD (colI s j)) = cs at *
  unfold chD at *
  generalize s.map rwD = rs at *
  clear h ho hn h3
  unfold cs_made_of
  rw [made_of_eq]
  unfold made_of_S1 made_of_S2 semZipS
  generalize made_of_S2_C1 = C at *
  unfold opD at *
  walk_at "evh"
theorem sp_law_made_of {k n : Int} {t : List Int} {m : Nat} {s : List (List Int)} (ho : OpOk k (opD k n t)) (h : ∀ r ∈ s, RowOk k m r) (hn : (s.length : Int) = n) (hm : m ≤ 100) : cs__law_made_of [.val (opD k n t), .val (chD s)] = .ok (.val (rwD (mkI (opD k n t) m s))) [.val (opD k n t), .val (chD s)] := by
  have h3 := kns_n ho
  have e : compLoop [2] (.one 2) (fun s => .ok true s) law_made_of_S1_C2 (rangeD 0 m) [.val (opD k n t), .val (chD s), .un, .un] = .ok ((List.range m).map fun j => .int (opv (opD k n t) (colI s j))) [.val (opD k n t), .val (chD s), .un, .un] := by
    rw [rangeD_zero]
    refine compLoop_mapOf (fun j : Nat => .int (j : Int)) (fun j => .int (opv (opD k n t) (colI s j))) _ _ _ rfl fun j hj => ⟨_, rfl, _, rfl, ?_⟩
    have hj := List.mem_range.mp hj
    have hr := colI_ok h hn hj
    have z1 := sp_law_value (sq := .list ((colI s j).map .int)) ho hr rfl
    have c1 : compLoop [3] (.one 3) (fun s => .ok true s) law_made_of_S1_C1 (s.map rwD) [.val (opD k n t), .val (chD s), .val (.int j), .un] = .ok ((colI s j).map .int) [.val (opD k n t), .val (chD s), .val (.int j), .un] := by
      unfold colI
      rw [List.map_map]
      refine compLoop_mapOf rwD _ _ _ _ rfl fun r hr => ⟨_, rfl, _, rfl, ?_⟩
      have hl : j < r.length := by have := (h r hr).1; omega
      have z : atI (r.map PyData.int) (j : Int) = some (.int (r.getD j 0)) := atN (by rw [List.getElem?_map, List.getElem?_eq_getElem hl, List.getD_eq_getElem?_getD, List.getElem?_eq_getElem hl]; rfl)
      simp only [Function.comp]
      unfold rwD
      generalize r.getD j 0 = v at *
      generalize r.map PyData.int = ri at *
      generalize (j : Int) = ji at *
      generalize chD s = d at *
      generalize opD k n t = o at *
      clear h ho hn hl hr
      unfold law_made_of_S1_C1
      walk_at "evh"
    generalize opv (opD k n t) (colI s j) = v at *
    generalize (colI s j).map PyData.int = cs at *
    unfold chD at *
    generalize s.map rwD = rs at *
    generalize opD k n t = o at *
    clear hr h ho hn hj
    unfold law_made_of_S1_C2
    generalize law_made_of_S1_C1 = C at *
    walk_at "evh"
  have e0 : (s.map rwD)[0]? = some (rwD (s.headD [])) := by
    cases s with
    | nil => simp at hn; omega
    | cons r s => rfl
  have e1 : atI (s.map rwD) 0 = some (.tuple ((s.headD []).map .int)) := atI_of (by decide) e0
  have e2 : (((s.headD []).map PyData.int).length : Int) = m := by
    cases s with
    | nil => simp at hn; omega
    | cons r s => rw [List.length_map]; exact (h r (List.mem_cons_self ..)).1
  have r1 : (m : Int) ≤ 1000000 := by omega
  have r2 : (-1000000 : Int) ≤ m := by omega
  have er : rwD (mkI (opD k n t) m s) = .tuple ((List.range m).map fun j => .int (opv (opD k n t) (colI s j))) := by
    unfold rwD mkI; rw [List.map_map]; rfl
  rw [er]
  clear er e0
  generalize ((List.range m).map fun j => PyData.int (opv (opD k n t) (colI s j))) = vs at *
  generalize ((s.headD []).map PyData.int) = hd0 at *
  unfold chD at *
  generalize s.map rwD = rs at *
  generalize opD k n t = o at *
  clear h ho hn h3 hm
  unfold cs__law_made_of
  rw [law_made_of_eq]
  unfold law_made_of_S1
  generalize law_made_of_S1_C2 = C at *
  walk_at "evh"
end
section
/-! ### broken rows -/
def first_broken_S1 : SemS := semSet 2 (semBin pSub1 (semNh 1) (semC (.int 2)))
def first_broken_S2 : SemS := semIfS (semCmpB pGt (fz (semCall cs_power_of [.one (fz (semCallB pLen [.one (semNh 2)])), .one (fz (semBin pSub1 (semNh 0) (semC (.int 1))))])) (semC (.int 300000))) (semSeqS (semRaise "TooLarge") semNx) semNx
def first_broken_S3 : SemS := semSet 3 (semDComp [5] (.one 5) (semSeq (semNv 2)) (fun s => .ok true s) (semNv 5) (semC (.bool true)))
def first_broken_S4_L1_S1 : SemS := semIfS (semCmpB pNotIn (fz (semCall cs_made_of [.one (semNv 0), .one (semNv 4)])) (semNh 3)) (semSeqS (semRet (semNm 4)) semNx) semNx
def first_broken_S4_L1 : SemS := semSeqS first_broken_S4_L1_S1 semNx
def first_broken_S4 : SemS := semFor (.one 4) (semSeq (fz (semCall cs_choices [.one (semNv 2), .one (fz (semBin pSub1 (semNh 0) (semC (.int 1))))]))) first_broken_S4_L1
def first_broken_S5 : SemS := semRet (semC .none)
theorem first_broken_eq : b_first_broken = semSeqS first_broken_S1 (semSeqS first_broken_S2 (semSeqS first_broken_S3 (semSeqS first_broken_S4 (semSeqS first_broken_S5 semNx)))) := rfl
def law_broken_S1_L1_S1 : SemS := semIfS (semCmpB pNotIn (fz (semCall cs__law_made_of [.one (semNv 0), .one (semNv 2)])) (fz (semBin pSub1 (semNh 1) (semC (.int 2))))) (semSeqS (semRet (semNm 2)) semNx) semNx
def law_broken_S1_L1 : SemS := semSeqS law_broken_S1_L1_S1 semNx
def law_broken_S1 : SemS := semFor (.one 2) (semSeq (fz (semCall cs__law_choices [.one (fz (semBin pSub1 (semNh 1) (semC (.int 2)))), .one (fz (semBin pSub1 (semNh 0) (semC (.int 1))))]))) law_broken_S1_L1
def law_broken_S2 : SemS := semRet (semC .none)
theorem law_broken_eq : b__law_broken = semSeqS law_broken_S1 (semSeqS law_broken_S2 semNx) := rfl
def broken_rows_S1 : SemS := semExpr (semCall cs_check_asked [.one (semNv 0), .one (semNv 1)])
def broken_rows_S2 : SemS := semRet (semCall cs_first_broken [.one (semNv 0), .one (semNv 1)])
theorem broken_rows_eq : b_broken_rows = semSeqS broken_rows_S1 (semSeqS broken_rows_S2 semNx) := rfl
def keeps_S1 : SemS := semRet (semBin pIs (fz (semCall cs_broken_rows [.one (semNv 0), .one (semNv 1)])) (semC .none))
theorem keeps_eq : b_keeps = semSeqS keeps_S1 semNx := rfl
def are_broken_S1 : SemS := semExpr (semCall cs_check_asked [.one (semNv 0), .one (semNv 1)])
def are_broken_S2 : SemS := semSet 3 (semDComp [4] (.one 4) (semSeq (fz (semBin pSub1 (semNh 1) (semC (.int 2))))) (fun s => .ok true s) (semNv 4) (semC (.bool true)))
def are_broken_S3_C1 : Sem := fz (semBin pIn (semNh 4) (semNh 3))
def are_broken_S3 : SemS := semIfS (semOr (semCmpB pNe (fz (semCallB pLen [.one (semNh 2)])) (fz (semBin pSub1 (semNh 0) (semC (.int 1))))) (semNot (semTru (fz (semCallB pAll [.one (fz (semComp [4] (.one 4) (semSeq (semNv 2)) (fun s => .ok true s) are_broken_S3_C1))]))))) (semSeqS (semRet (semC (.bool false))) semNx) semNx
def are_broken_S4 : SemS := semRet (semBin pNotIn (fz (semCall cs_made_of [.one (semNv 0), .one (semNv 2)])) (semNh 3))
theorem are_broken_eq : b_are_broken = semSeqS are_broken_S1 (semSeqS are_broken_S2 (semSeqS are_broken_S3 (semSeqS are_broken_S4 semNx))) := rfl
def law_asked_S1 : SemS := semTry kindOf 4 (semSeqS (semRet (semIf (semCmpB pLt (semNh 0) (semC (.int 2))) (semPick [cs_keeps, cs_broken_rows] (semNh 0) [.one (semNv 1), .one (semNv 2)]) (semCall cs_are_broken [.one (semNv 1), .one (semNv 2), .one (semNv 3)]))) semNx)
theorem law_asked_eq : b__law_asked = semSeqS law_asked_S1 semNx := rfl
/-- what is not told by the rows -/
def brk (d : D) (m : Nat) (rows : List (List Int)) (s : List (List Int)) : Bool := !decide (mkI d m s ∈ rows)
def dueS (d : D) (n : Int) (m : Nat) (rows : List (List Int)) : Option (List (List Int)) := (chI rows n.toNat).find? (brk d m rows)
def dueD : Option (List (List Int)) → D
  | none => .none
  | some s => chD s
structure Case (k n : Int) (t : List Int) (m : Nat) (rows : List (List Int)) : Prop where
  op : OpOk k (opD k n t)
  rl : Rl k m rows
  le : rows.length ≤ 27
theorem Case.n3 {k n : Int} {t : List Int} {m : Nat} {rows : List (List Int)} (C : Case k n t m rows) : 1 ≤ n ∧ n ≤ 3 := by
  have := kns_n C.op; omega
theorem Case.ch {k n : Int} {t : List Int} {m : Nat} {rows : List (List Int)} (C : Case k n t m rows) {s : List (List Int)} (hs : s ∈ chI rows n.toNat) : (∀ r ∈ s, RowOk k m r) ∧ (s.length : Int) = n := by
  obtain ⟨h1, h2⟩ := chI_mem hs
  have := C.n3
  exact ⟨fun r hr => C.rl.ok r (h2 r hr), by omega⟩
theorem Case.m27 {k n : Int} {t : List Int} {m : Nat} {rows : List (List Int)} (C : Case k n t m rows) : m ≤ 100 := by have := C.rl.m2; omega
def setR (rows : List (List Int)) : List (List Int × D) := addR (.bool true) [] rows
theorem setR_in {rows : List (List Int)} {q : List Int} : (getR (setR rows) q).isSome = decide (q ∈ rows) := by
  unfold setR
  rw [getR_addR]
  simp [getR]
theorem fb_step {k n : Int} {t : List Int} {m : Nat} {rows : List (List Int)} (C : Case k n t m rows) (b c : SV) {s : List (List Int)} (hs : s ∈ chI rows n.toNat) (x : SV) :
    first_broken_S4_L1 [.val (opD k n t), .val (relD k m rows), b, .own (.dic (dicR (setR rows))), .val (chD s), x] = if brk (opD k n t) m rows s = true then .rt (.val (chD s)) [.val (opD k n t), .val (relD k m rows), b, .own (.dic (dicR (setR rows))), .val (chD s), x] else .nx [.val (opD k n t), .val (relD k m rows), b, .own (.dic (dicR (setR rows))), .val (chD s), x] := by
  obtain ⟨h1, h2⟩ := C.ch hs
  have z := sp_made_of C.op h1 h2
  have y := notIn_rows (ws := setR rows) (r := mkI (opD k n t) m s)
  rw [setR_in] at y
  have e : brk (opD k n t) m rows s = !decide (mkI (opD k n t) m s ∈ rows) := rfl
  rw [e]
  generalize decide (mkI (opD k n t) m s ∈ rows) = q at *
  generalize rwD (mkI (opD k n t) m s) = w at *
  generalize dicR (setR rows) = ds at *
  generalize chD s = d at *
  generalize relD k m rows = r at *
  generalize opD k n t = o at *
  clear C hs h1 h2 e
  unfold first_broken_S4_L1 first_broken_S4_L1_S1
  cases q <;> walk_at "evh"
theorem lb_step {k n : Int} {t : List Int} {m : Nat} {rows : List (List Int)} (C : Case k n t m rows) {s : List (List Int)} (hs : s ∈ chI rows n.toNat) :
    law_broken_S1_L1 [.val (opD k n t), .val (relD k m rows), .val (chD s)] = if brk (opD k n t) m rows s = true then .rt (.val (chD s)) [.val (opD k n t), .val (relD k m rows), .val (chD s)] else .nx [.val (opD k n t), .val (relD k m rows), .val (chD s)] := by
  obtain ⟨h1, h2⟩ := C.ch hs
  have z := sp_law_made_of C.op h1 h2 C.m27
  have y := notIn_rowsT rows (mkI (opD k n t) m s)
  have e : brk (opD k n t) m rows s = !decide (mkI (opD k n t) m s ∈ rows) := rfl
  rw [e]
  generalize decide (mkI (opD k n t) m s ∈ rows) = q at *
  generalize rwD (mkI (opD k n t) m s) = w at *
  generalize chD s = d at *
  unfold relD at *
  generalize rows.map rwD = rs at *
  generalize opD k n t = o at *
  clear C hs h1 h2 e
  unfold law_broken_S1_L1 law_broken_S1_L1_S1
  cases q <;> walk_at "evh"
theorem sp_law_broken {k n : Int} {t : List Int} {m : Nat} {rows : List (List Int)} (C : Case k n t m rows) : cs__law_broken [.val (opD k n t), .val (relD k m rows)] = .ok (.val (dueD (dueS (opD k n t) n m rows))) [.val (opD k n t), .val (relD k m rows)] := by
  have z := sp_law_choices (sq := .tuple (rows.map rwD)) (n := n) rfl C.le C.n3
  have key := forLoop_find (t := .one 2) (b := law_broken_S1_L1) chD (brk (opD k n t) m rows) (fun s => .val (chD s)) (fun s => ∃ x, s = [.val (opD k n t), .val (relD k m rows), x]) (fun s => ∃ x, s = [.val (opD k n t), .val (relD k m rows), x]) (chI rows n.toNat) [.val (opD k n t), .val (relD k m rows), .un] ⟨_, rfl⟩ fun s hs q hq => by
    obtain ⟨x, rfl⟩ := hq
    refine ⟨_, rfl, ?_⟩
    have st := lb_step C hs
    cases hb : brk (opD k n t) m rows s with
    | true => rw [hb, if_pos rfl] at st; exact .inr ⟨rfl, _, st, _, rfl⟩
    | false => rw [hb, if_neg (by decide)] at st; exact .inl ⟨rfl, _, st, _, rfl⟩
  unfold cs__law_broken
  rw [law_broken_eq]
  unfold law_broken_S1 law_broken_S2 dueS
  generalize law_broken_S1_L1 = L at *
  clear C
  unfold relD at *
  generalize (chI rows n.toNat).map chD = cs at *
  generalize rows.map rwD = rs at *
  rcases key with ⟨k1, s', k2, x, rfl⟩ | ⟨s, k1, s', k2, x, rfl⟩
  · rw [k1]
    unfold dueD opD at *
    clear k1
    walk_at "evh"
  · rw [k1]
    unfold dueD opD at *
    clear k1
    walk_at "evh"
theorem sp_first_broken {k n : Int} {t : List Int} {m : Nat} {rows : List (List Int)} (C : Case k n t m rows) : cs_first_broken [.val (opD k n t), .val (relD k m rows)] = .ok (.val (dueD (dueS (opD k n t) n m rows))) [.val (opD k n t), .val (relD k m rows)] := by
  have z := sp_choices (sq := .tuple (rows.map rwD)) (n := n) rfl C.le C.n3
  obtain ⟨q, hq, p⟩ := sp_power (N := ((rows.map rwD).length : Nat)) (n := n) ⟨by omega, by have := C.le; simp; omega⟩ (kns_n C.op)
  have nq : ¬ 300000 < q := by omega
  have dc : dcLoop [5] (.one 5) (fun s => .ok true s) (semNv 5) (semC (.bool true)) (rows.map rwD) [] [.val (opD k n t), .val (relD k m rows), .val (.tuple (rows.map rwD)), .un, .un, .un] = .ok (dicR (setR rows)) [.val (opD k n t), .val (relD k m rows), .val (.tuple (rows.map rwD)), .un, .un, .un] :=
    dcLoop_rows (.bool true) [.val (opD k n t), .val (relD k m rows), .val (.tuple (rows.map rwD)), .un, .un, .un] rows [] _ rfl (by have := C.le; simp; omega) fun r hr => ⟨_, rfl, _, rfl, _, rfl, rfl⟩
  have key := forLoop_find (t := .one 4) (b := first_broken_S4_L1) chD (brk (opD k n t) m rows) (fun s => .val (chD s)) (fun s => ∃ x, s = [.val (opD k n t), .val (relD k m rows), .val (.tuple (rows.map rwD)), .own (.dic (dicR (setR rows))), x, .un]) (fun s => ∃ x, s = [.val (opD k n t), .val (relD k m rows), .val (.tuple (rows.map rwD)), .own (.dic (dicR (setR rows))), x, .un]) (chI rows n.toNat) [.val (opD k n t), .val (relD k m rows), .val (.tuple (rows.map rwD)), .own (.dic (dicR (setR rows))), .un, .un] ⟨_, rfl⟩ fun s hs q hq => by
    obtain ⟨x, rfl⟩ := hq
    refine ⟨_, rfl, ?_⟩
    have st := fb_step C (.val (.tuple (rows.map rwD))) .un hs .un
    cases hb : brk (opD k n t) m rows s with
    | true => rw [hb, if_pos rfl] at st; exact .inr ⟨rfl, _, st, _, rfl⟩
    | false => rw [hb, if_neg (by decide)] at st; exact .inl ⟨rfl, _, st, _, rfl⟩
  unfold cs_first_broken
  rw [first_broken_eq]
  unfold first_broken_S1 first_broken_S2 first_broken_S3 first_broken_S4 first_broken_S5 dueS semDComp
  generalize first_broken_S4_L1 = L at *
  clear C hq
  generalize dicR (setR rows) = ds at *
  unfold relD at *
  generalize (chI rows n.toNat).map chD = cs at *
  generalize rows.map rwD = rs at *
  rcases key with ⟨k1, s', k2, x, rfl⟩ | ⟨s, k1, s', k2, x, rfl⟩
  · rw [k1]
    unfold dueD opD at *
    clear k1
    walk_at "evh"
  · rw [k1]
    unfold dueD opD at *
    clear k1
    walk_at "evh"
end
section
/-! ### what is asked -/
theorem sp_broken_rows {k n : Int} {t : List Int} {m : Nat} {rows : List (List Int)} (C : Case k n t m rows) : cs_broken_rows [.val (opD k n t), .val (relD k m rows)] = .ok (.val (dueD (dueS (opD k n t) n m rows))) [.val (opD k n t), .val (relD k m rows)] := by
  have z1 := sp_check_asked C.op C.rl
  have z2 := sp_first_broken C
  clear C
  generalize dueD (dueS (opD k n t) n m rows) = v at *
  generalize relD k m rows = r at *
  generalize opD k n t = o at *
  unfold cs_broken_rows b_broken_rows
  walk_at "evh"
theorem sp_keeps {k n : Int} {t : List Int} {m : Nat} {rows : List (List Int)} (C : Case k n t m rows) : cs_keeps [.val (opD k n t), .val (relD k m rows)] = .ok (.val (.bool (dueS (opD k n t) n m rows).isNone)) [.val (opD k n t), .val (relD k m rows)] := by
  have z2 := sp_broken_rows C
  have p : pIs (dueD (dueS (opD k n t) n m rows)) .none = some (.val (.bool (dueS (opD k n t) n m rows).isNone)) := by
    cases dueS (opD k n t) n m rows <;> rfl
  clear C
  generalize (dueS (opD k n t) n m rows).isNone = b at *
  generalize dueD (dueS (opD k n t) n m rows) = v at *
  generalize relD k m rows = r at *
  generalize opD k n t = o at *
  unfold cs_keeps b_keeps
  walk_at "evh"
def rgt (d : D) (n : Int) (m : Nat) (rows s : List (List Int)) : Bool := decide ((s.length : Int) = n) && (s.all (fun r => decide (r ∈ rows)) && !decide (mkI d m s ∈ rows))
theorem sp_are_broken {k n : Int} {t : List Int} {m : Nat} {rows : List (List Int)} (C : Case k n t m rows) (s : List (List Int)) : cs_are_broken [.val (opD k n t), .val (relD k m rows), .val (chD s)] = .ok (.val (.bool (rgt (opD k n t) n m rows s))) [.val (opD k n t), .val (relD k m rows), .val (chD s)] := by
  have z1 := sp_check_asked C.op C.rl
  have dc : dcLoop [4] (.one 4) (fun s => .ok true s) (semNv 4) (semC (.bool true)) (rows.map rwD) [] [.val (opD k n t), .val (relD k m rows), .val (chD s), .un, .un] = .ok (dicR (setR rows)) [.val (opD k n t), .val (relD k m rows), .val (chD s), .un, .un] :=
    dcLoop_rows (.bool true) [.val (opD k n t), .val (relD k m rows), .val (chD s), .un, .un] rows [] _ rfl (by have := C.le; simp; omega) fun r hr => ⟨_, rfl, _, rfl, _, rfl, rfl⟩
  have cl : compLoop [4] (.one 4) (fun s => .ok true s) are_broken_S3_C1 (s.map rwD) [.val (opD k n t), .val (relD k m rows), .val (chD s), .own (.dic (dicR (setR rows))), .un] = .ok (s.map fun r => .bool (decide (r ∈ rows))) [.val (opD k n t), .val (relD k m rows), .val (chD s), .own (.dic (dicR (setR rows))), .un] := by
    refine compLoop_mapOf rwD _ _ _ _ rfl fun r hr => ⟨_, rfl, _, rfl, ?_⟩
    have y := in_rows (ws := setR rows) (r := r)
    rw [setR_in] at y
    generalize decide (r ∈ rows) = b at *
    generalize dicR (setR rows) = ds at *
    generalize rwD r = x at *
    generalize relD k m rows = rr at *
    generalize opD k n t = o at *
    generalize chD s = cd at *
    clear C hr dc
    unfold are_broken_S3_C1
    walk_at "evh"
  have pa := pAll_of (fun r => decide (r ∈ rows)) s
  have e3 : (s.map rwD).length = s.length := by simp
  unfold rgt
  by_cases c1 : (s.length : Int) = n
  · rw [decide_eq_true c1]
    cases c2 : s.all fun r => decide (r ∈ rows) with
    | true =>
      have hr : ∀ r ∈ s, RowOk k m r := fun r hr => C.rl.ok r (by simpa using List.all_eq_true.mp c2 r hr)
      have z2 := sp_made_of C.op hr c1
      have y := notIn_rows (ws := setR rows) (r := mkI (opD k n t) m s)
      rw [setR_in] at y
      rw [c2] at pa
      generalize decide (mkI (opD k n t) m s ∈ rows) = q at *
      generalize rwD (mkI (opD k n t) m s) = w at *
      generalize dicR (setR rows) = ds at *
      generalize (s.map fun r => PyData.bool (decide (r ∈ rows))) = bs at *
      unfold relD at *
      generalize rows.map rwD = rs at *
      unfold chD at *
      rw [← e3] at c1
      generalize s.map rwD = ss at *
      clear C hr c2 e3
      unfold cs_are_broken
      rw [are_broken_eq]
      unfold are_broken_S1 are_broken_S2 are_broken_S3 are_broken_S4 semDComp
      generalize are_broken_S3_C1 = L at *
      unfold opD at *
      walk_at "evh"
    | false =>
      rw [c2] at pa
      generalize dicR (setR rows) = ds at *
      generalize (s.map fun r => PyData.bool (decide (r ∈ rows))) = bs at *
      unfold relD at *
      generalize rows.map rwD = rs at *
      unfold chD at *
      rw [← e3] at c1
      generalize s.map rwD = ss at *
      clear C c2 e3
      unfold cs_are_broken
      rw [are_broken_eq]
      unfold are_broken_S1 are_broken_S2 are_broken_S3 are_broken_S4 semDComp
      generalize are_broken_S3_C1 = L at *
      unfold opD at *
      walk_at "evh"
  · rw [decide_eq_false c1]
    generalize dicR (setR rows) = ds at *
    generalize (s.map fun r => PyData.bool (decide (r ∈ rows))) = bs at *
    unfold relD at *
    generalize rows.map rwD = rs at *
    unfold chD at *
    rw [← e3] at c1
    generalize s.map rwD = ss at *
    clear C e3 cl pa
    unfold cs_are_broken
    rw [are_broken_eq]
    unfold are_broken_S1 are_broken_S2 are_broken_S3 are_broken_S4 semDComp
    generalize are_broken_S3_C1 = L at *
    unfold opD at *
    walk_at "evh"
theorem sp_asked0 {k n : Int} {t : List Int} {m : Nat} {rows : List (List Int)} (C : Case k n t m rows) (d : D) : cs__law_asked [.val (.int 0), .val (opD k n t), .val (relD k m rows), .val d] = .ok (.val (.bool (dueS (opD k n t) n m rows).isNone)) [.val (.int 0), .val (opD k n t), .val (relD k m rows), .val d] := by
  have z := sp_keeps C
  clear C
  generalize (dueS (opD k n t) n m rows).isNone = v at *
  generalize relD k m rows = r at *
  generalize opD k n t = o at *
  unfold cs__law_asked b__law_asked
  walk_at "evh"
theorem sp_asked1 {k n : Int} {t : List Int} {m : Nat} {rows : List (List Int)} (C : Case k n t m rows) (d : D) : cs__law_asked [.val (.int 1), .val (opD k n t), .val (relD k m rows), .val d] = .ok (.val (dueD (dueS (opD k n t) n m rows))) [.val (.int 1), .val (opD k n t), .val (relD k m rows), .val d] := by
  have z := sp_broken_rows C
  clear C
  generalize dueD (dueS (opD k n t) n m rows) = v at *
  generalize relD k m rows = r at *
  generalize opD k n t = o at *
  unfold cs__law_asked b__law_asked
  walk_at "evh"
theorem sp_asked2 {k n : Int} {t : List Int} {m : Nat} {rows : List (List Int)} (C : Case k n t m rows) (s : List (List Int)) : cs__law_asked [.val (.int 2), .val (opD k n t), .val (relD k m rows), .val (chD s)] = .ok (.val (.bool (rgt (opD k n t) n m rows s))) [.val (.int 2), .val (opD k n t), .val (relD k m rows), .val (chD s)] := by
  have z := sp_are_broken C s
  clear C
  generalize (rgt (opD k n t) n m rows s) = v at *
  generalize relD k m rows = r at *
  generalize opD k n t = o at *
  generalize chD s = c at *
  unfold cs__law_asked b__law_asked
  walk_at "evh"
end
section
/-! ### closing rows -/
def law_closed_S1_C1 : Sem := fz (semTup [.one (semNv 9), .one (semC (.bool true))])
def law_closed_S1 : SemS := semSet 3 (semCallB pDictP [.one (fz (semComp [9] (.one 9) (semSeq (semNv 1)) (fun s => .ok true s) law_closed_S1_C1))])
def law_closed_S2_L1_S1 : SemS := semSet 5 semDic0
def law_closed_S2_L1_S2 : SemS := semSet 6 (semCallB pSorted [.one (semNh 3)])
def law_closed_S2_L1_S3_L1_S1 : SemS := semIfS (semCmpB pGt (fz (semCallB pLen [.one (semNh 6)])) (fz (semBin pMul (fz (semBin pSub1 (fz (semLst [.one (semC (.int 0)), .one (semC (.int 300)), .one (semC (.int 60)), .one (semC (.int 14)), .one (semC (.int 9))])) (fz (semCallB pMin [.one (semC (.int 4)), .one (fz (semBin pSub1 (semNh 7) (semC (.int 1))))])))) (semC (.int 4))))) (semSeqS (semRet (semC .none)) semNx) semNx
def law_closed_S2_L1_S3_L1_S2_L1_S1 : SemS := semSet 9 (semCall cs__law_made_of [.one (semNv 7), .one (semNv 8)])
def law_closed_S2_L1_S3_L1_S2_L1_S2 : SemS := semIfS (semCmpB pNotIn (semNh 9) (semNh 3)) (semSeqS (semSetIx 5 (semNh 9) (semC (.bool true))) semNx) semNx
def law_closed_S2_L1_S3_L1_S2_L1 : SemS := semSeqS law_closed_S2_L1_S3_L1_S2_L1_S1 (semSeqS law_closed_S2_L1_S3_L1_S2_L1_S2 semNx)
def law_closed_S2_L1_S3_L1_S2 : SemS := semFor (.one 8) (semSeq (fz (semCall cs__law_choices [.one (semNv 6), .one (fz (semBin pSub1 (semNh 7) (semC (.int 1))))]))) law_closed_S2_L1_S3_L1_S2_L1
def law_closed_S2_L1_S3_L1 : SemS := semSeqS law_closed_S2_L1_S3_L1_S1 (semSeqS law_closed_S2_L1_S3_L1_S2 semNx)
def law_closed_S2_L1_S3 : SemS := semFor (.one 7) (semSeq (semNv 0)) law_closed_S2_L1_S3_L1
def law_closed_S2_L1_S4 : SemS := semIfS (semNot (semTru (semNh 5))) (semSeqS (semRet (semNm 6)) semNx) semNx
def law_closed_S2_L1_S5 : SemS := semExpr (semMut "dict" mUpdate 3 [.one (semNv 5)])
def law_closed_S2_L1_S6 : SemS := semIfS (semCmpB pGt (fz (semCallB pLen [.one (semNh 3)])) (semNh 2)) (semSeqS (semRet (semC .none)) semNx) semNx
def law_closed_S2_L1 : SemS := semSeqS law_closed_S2_L1_S1 (semSeqS law_closed_S2_L1_S2 (semSeqS law_closed_S2_L1_S3 (semSeqS law_closed_S2_L1_S4 (semSeqS law_closed_S2_L1_S5 (semSeqS law_closed_S2_L1_S6 semNx)))))
def law_closed_S2 : SemS := semFor (.one 4) (semRange1 [.one (fz (semBin pAdd (semNh 2) (semC (.int 1))))]) law_closed_S2_L1
def law_closed_S3 : SemS := semRet (semC .none)
theorem law_closed_eq : b__law_closed = semSeqS law_closed_S1 (semSeqS law_closed_S2 (semSeqS law_closed_S3 semNx)) := rfl
theorem nodup_le : ∀ {l m : List (List Int)}, l.Nodup → (∀ x ∈ l, x ∈ m) → l.length ≤ m.length
  | [], m, _, _ => Nat.zero_le _
  | a :: l, m, h, hs => by
    have h' := List.nodup_cons.mp h
    have ha := hs a (List.mem_cons_self ..)
    have := nodup_le (m := m.erase a) h'.2 fun x hx => (List.mem_erase_of_ne (by rintro rfl; exact h'.1 hx)).mpr (hs x (List.mem_cons_of_mem _ hx))
    have hl := List.length_erase_of_mem ha
    have hp : 0 < m.length := List.length_pos_of_mem ha
    rw [List.length_cons]; omega
theorem rowsI_all {k : Nat} : ∀ {m : Nat} {r : List Int}, RowOk k m r → r ∈ rowsI k m
  | 0, r, h => by
    have : r = [] := List.length_eq_zero_iff.mp (by have := h.1; omega)
    subst this; exact List.mem_singleton.mpr rfl
  | m + 1, r, h => by
    have hl : r.length = m + 1 := by have := h.1; omega
    have hne : r ≠ [] := by rintro rfl; simp at hl
    have e := List.dropLast_concat_getLast hne
    have h1 : RowOk k m r.dropLast := ⟨by simp [hl], fun x hx => h.2 x (List.dropLast_subset _ hx)⟩
    obtain ⟨g0, g1⟩ := h.2 _ (List.getLast_mem hne)
    generalize r.getLast hne = g at *
    simp only [rowsI, List.mem_flatten, List.mem_map]
    refine ⟨_, ⟨r.dropLast, rowsI_all h1, rfl⟩, ?_⟩
    refine List.mem_map.mpr ⟨g.toNat, List.mem_range.mpr (by omega), ?_⟩
    rw [← e]
    have : Int.ofNat g.toNat = g := by simp only [Int.ofNat_eq_natCast]; omega
    rw [this]; simp
theorem rows27 {k : Int} {m : Nat} {l : List (List Int)} (hk : k = 2 ∨ k = 3) (hm : m = 1 ∨ m = 2 ∨ m = 3) (h : ∀ r ∈ l, RowOk k m r) (n : l.Nodup) : l.length ≤ 27 := by
  have key : ∀ p ∈ kn6, (rowsI p.1 p.2).length ≤ 27 := by decide
  rcases hk with rfl | rfl <;> rcases hm with rfl | rfl | rfl
  · exact Nat.le_trans (nodup_le n fun r hr => rowsI_all (k := 2) (h r hr)) (key (2, 1) (by decide))
  · exact Nat.le_trans (nodup_le n fun r hr => rowsI_all (k := 2) (h r hr)) (key (2, 2) (by decide))
  · exact Nat.le_trans (nodup_le n fun r hr => rowsI_all (k := 2) (h r hr)) (key (2, 3) (by decide))
  · exact Nat.le_trans (nodup_le n fun r hr => rowsI_all (k := 3) (h r hr)) (key (3, 1) (by decide))
  · exact Nat.le_trans (nodup_le n fun r hr => rowsI_all (k := 3) (h r hr)) (key (3, 2) (by decide))
  · exact Nat.le_trans (nodup_le n fun r hr => rowsI_all (k := 3) (h r hr)) (key (3, 3) (by decide))
def mergeR (ws vs : List (List Int × D)) : List (List Int × D) := vs.foldl (fun acc w => putR acc w.1 w.2) ws
theorem mergeR_dmerge : ∀ (vs ws : List (List Int × D)), dmerge (dicR ws) (dicR vs) = dicR (mergeR ws vs)
  | [], ws => rfl
  | v :: vs, ws => by
    have ih := mergeR_dmerge vs (putR ws v.1 v.2)
    unfold dmerge mergeR at *
    rw [show dicR (v :: vs) = (rwD v.1, v.2) :: dicR vs from rfl, List.foldl_cons, List.foldl_cons, dput_rows]
    exact ih
theorem keysR_put_mem {ws : List (List Int × D)} {r q : List Int} {v : D} : q ∈ keysR (putR ws r v) ↔ q ∈ keysR ws ∨ q = r := by
  rw [keysR_put]
  split
  · rename_i h
    exact ⟨.inl, fun e => e.elim id fun z => z ▸ h⟩
  · simp
/-- known, news: rows told once -/
structure Kn (k : Int) (m : Nat) (ws : List (List Int × D)) : Prop where
  nd : (keysR ws).Nodup
  ok : ∀ r ∈ keysR ws, RowOk k m r
theorem Kn.put {k : Int} {m : Nat} {ws : List (List Int × D)} (h : Kn k m ws) {r : List Int} (v : D) (hr : RowOk k m r) : Kn k m (putR ws r v) := ⟨keysR_nodup r v h.nd, fun q hq => by
  rcases keysR_put_mem.mp hq with e | rfl
  · exact h.ok q e
  · exact hr⟩
theorem Kn.merge {k : Int} {m : Nat} : ∀ {vs ws : List (List Int × D)}, Kn k m ws → (∀ r ∈ keysR vs, RowOk k m r) → Kn k m (mergeR ws vs)
  | [], ws, h, _ => h
  | v :: vs, ws, h, hv => Kn.merge (vs := vs) (h.put v.2 (hv v.1 (List.mem_cons_self ..))) fun r hr => hv r (List.mem_cons_of_mem _ hr)
theorem Kn.nil {k : Int} {m : Nat} : Kn k m [] := ⟨List.Pairwise.nil, fun r h => by cases h⟩
theorem Kn.addR {k : Int} {m : Nat} {v : D} : ∀ {l : List (List Int)} {ws : List (List Int × D)}, Kn k m ws → (∀ r ∈ l, RowOk k m r) → Kn k m (addR v ws l)
  | [], ws, h, _ => h
  | r :: l, ws, h, hl => Kn.addR (l := l) (h.put v (hl r (List.mem_cons_self ..))) fun q hq => hl q (List.mem_cons_of_mem _ hq)
theorem Kn.len {k : Int} {m : Nat} {ws : List (List Int × D)} (hk : k = 2 ∨ k = 3) (hm : m = 1 ∨ m = 2 ∨ m = 3) (h : Kn k m ws) : ws.length ≤ 27 := by
  have := rows27 hk hm h.ok h.nd
  simpa [keysR] using this
theorem upd_rows {ws vs : List (List Int × D)} (h1 : ws ≠ []) (h2 : vs ≠ []) (hl : ws.length + vs.length ≤ 1000000) : mUpdate (.dic (dicR ws)) [.dict (dicR vs)] = some (.none, .dic (dicR (mergeR ws vs))) := by
  have e1 : szOk ((dicR ws).length + (dicR vs).length) = true := szOk_of (by simpa [dicR] using hl)
  have e2 : (headKS (dicR ws) == headKS (dicR vs)) = true := by
    cases ws with
    | nil => exact (h1 rfl).elim
    | cons w ws => cases vs with
      | nil => exact (h2 rfl).elim
      | cons v vs => rfl
  have e3 : (dicR ws).isEmpty = false := by
    cases ws with
    | nil => exact (h1 rfl).elim
    | cons w ws => rfl
  unfold mUpdate
  simp only [e1, e2, e3, Bool.not_false, Bool.and_self, if_true, mergeR_dmerge]
/-- a loop that goes through or ends with an answer -/
theorem forLoop_ret {t : Tg} {b : SemS} (P Q : Sg → Prop) (V : R → Prop) : ∀ (ds : List D) (s : Sg), P s → (∀ d ∈ ds, ∀ s, P s → ∃ s1, t.bind d s = some s1 ∧ ((∃ s2, b s1 = .nx s2 ∧ P s2) ∨ (∃ v s2, b s1 = .rt v s2 ∧ V v ∧ Q s2))) →
    (∃ s', forLoop t b ds s = .nx s' ∧ P s') ∨ (∃ v s', forLoop t b ds s = .rt v s' ∧ V v ∧ Q s')
  | [], s, h, _ => .inl ⟨s, rfl, h⟩
  | d :: ds, s, h, st => by
    obtain ⟨s1, e1, h1⟩ := st d (List.mem_cons_self ..) s h
    rcases h1 with ⟨s2, e2, h2⟩ | ⟨v, s2, e2, h2⟩
    · rcases forLoop_ret P Q V ds s2 h2 fun d' hd => st d' (List.mem_cons_of_mem _ hd) with ⟨s', e3, h3⟩ | ⟨v, s', e3, h3⟩
      · exact .inl ⟨s', by simp only [forLoop, e1, e2]; exact e3, h3⟩
      · exact .inr ⟨v, s', by simp only [forLoop, e1, e2]; exact e3, h3⟩
    · exact .inr ⟨v, s2, by simp only [forLoop, e1, e2], h2⟩
theorem lc_in {k n : Int} {t : List Int} {m : Nat} {order : List (List Int)} {ws vs : List (List Int × D)} {A0 A1 A2 : D} {x4 x9 : SV} (ho : OpOk k (opD k n t)) (hr : ∀ r ∈ order, RowOk k m r) (hk : k = 2 ∨ k = 3) (hm : m = 1 ∨ m = 2 ∨ m = 3) (hv : Kn k m vs) {s : List (List Int)} (hs : s ∈ chI order n.toNat) :
    ∃ vs' x9', Kn k m vs' ∧ law_closed_S2_L1_S3_L1_S2_L1 [.val A0, .val A1, .val A2, .own (.dic (dicR ws)), x4, .own (.dic (dicR vs)), .val (.list (order.map rwD)), .val (opD k n t), .val (chD s), x9] = .nx [.val A0, .val A1, .val A2, .own (.dic (dicR ws)), x4, .own (.dic (dicR vs')), .val (.list (order.map rwD)), .val (opD k n t), .val (chD s), x9'] := by
  obtain ⟨h1, h2⟩ := chI_mem hs
  have h3 := kns_n ho
  have hs' : ∀ r ∈ s, RowOk k m r := fun r hr' => hr r (h2 r hr')
  have hn : (s.length : Int) = n := by omega
  have z := sp_law_made_of ho hs' hn (by omega)
  have w := mkI_ok ho hs' hn
  have y := notIn_rows (ws := ws) (r := mkI (opD k n t) m s)
  have so := setO_rows (ws := vs) (mkI (opD k n t) m s) (.bool true) (by have := hv.len hk hm; omega)
  cases hq : (getR ws (mkI (opD k n t) m s)).isSome with
  | true =>
    refine ⟨vs, .val (rwD (mkI (opD k n t) m s)), hv, ?_⟩
    rw [hq] at y
    generalize rwD (mkI (opD k n t) m s) = ww at *
    generalize order.map rwD = os at *
    generalize dicR ws = wd at *
    generalize dicR vs = vd at *
    generalize chD s = cd at *
    generalize opD k n t = o at *
    clear w hv hr hs h1 h2 h3 hs' hn so hq ho hk hm
    unfold law_closed_S2_L1_S3_L1_S2_L1 law_closed_S2_L1_S3_L1_S2_L1_S1 law_closed_S2_L1_S3_L1_S2_L1_S2
    walk_at "evh"
  | false =>
    refine ⟨putR vs (mkI (opD k n t) m s) (.bool true), .val (rwD (mkI (opD k n t) m s)), hv.put _ w, ?_⟩
    rw [hq] at y
    generalize dicR (putR vs (mkI (opD k n t) m s) (.bool true)) = nd at *
    generalize rwD (mkI (opD k n t) m s) = ww at *
    generalize order.map rwD = os at *
    generalize dicR ws = wd at *
    generalize dicR vs = vd at *
    generalize chD s = cd at *
    generalize opD k n t = o at *
    clear w hv hr hs h1 h2 h3 hs' hn hq ho hk hm
    unfold law_closed_S2_L1_S3_L1_S2_L1 law_closed_S2_L1_S3_L1_S2_L1_S1 law_closed_S2_L1_S3_L1_S2_L1_S2 semSetIx
    walk_at "evh"
theorem lc_maker {k n : Int} {t : List Int} {m : Nat} {order : List (List Int)} {ws vs : List (List Int × D)} {A0 A1 A2 : D} {x4 x8 x9 : SV} (ho : OpOk k (opD k n t)) (hr : ∀ r ∈ order, RowOk k m r) (hl : order.length ≤ 27) (hk : k = 2 ∨ k = 3) (hm : m = 1 ∨ m = 2 ∨ m = 3) (hv : Kn k m vs) :
    ∃ vs' x8' x9', (Kn k m vs' ∧ (order = [] → vs' = vs)) ∧ law_closed_S2_L1_S3_L1 [.val A0, .val A1, .val A2, .own (.dic (dicR ws)), x4, .own (.dic (dicR vs)), .own (.lst (order.map rwD)), .val (opD k n t), x8, x9] = .nx [.val A0, .val A1, .val A2, .own (.dic (dicR ws)), x4, .own (.dic (dicR vs')), .val (.list (order.map rwD)), .val (opD k n t), x8', x9'] := by
  have h3 := kns_n ho
  have z := sp_law_choices (sq := .list (order.map rwD)) (n := n) rfl hl (by omega)
  obtain ⟨s', e, vs', x8', x9', hv', hz, rfl⟩ := forLoop_run (t := .one 8) (b := law_closed_S2_L1_S3_L1_S2_L1) (fun _ s => ∃ vs' x8' x9', Kn k m vs' ∧ (chI order n.toNat = [] → vs' = vs) ∧ s = [.val A0, .val A1, .val A2, .own (.dic (dicR ws)), x4, .own (.dic (dicR vs')), .val (.list (order.map rwD)), .val (opD k n t), x8', x9']) (ds := (chI order n.toNat).map chD) (s := [.val A0, .val A1, .val A2, .own (.dic (dicR ws)), x4, .own (.dic (dicR vs)), .val (.list (order.map rwD)), .val (opD k n t), x8, x9])
    ⟨vs, _, _, hv, fun _ => rfl, rfl⟩ (fun i d s hd hs => by
      obtain ⟨vs', x8', x9', hv', -, rfl⟩ := hs
      obtain ⟨q, hq, rfl⟩ := List.mem_map.mp (List.mem_of_getElem? hd)
      obtain ⟨vs2, y9, hv2, e⟩ := lc_in (A0 := A0) (A1 := A1) (A2 := A2) (x4 := x4) (x9 := x9') (ws := ws) ho hr hk hm hv' hq
      exact ⟨_, rfl, _, .inl e, vs2, _, _, hv2, (fun z => by rw [z] at hq; cases hq), rfl⟩)
  have hz' : order = [] → vs' = vs := fun z => hz (by
    subst z
    have := chI_len [] n.toNat
    rw [List.length_nil, Nat.zero_pow (by omega)] at this
    exact List.length_eq_zero_iff.mp this)
  refine ⟨vs', x8', x9', ⟨hv', hz'⟩, ?_⟩
  clear hz hz'
  have ol : ((order.map rwD).length : Int) ≤ 27 := by simp; omega
  have n1 : ¬ (1200 : Int) < (order.map rwD).length := by omega
  have n2 : ¬ (240 : Int) < (order.map rwD).length := by omega
  have n3 : ¬ (56 : Int) < (order.map rwD).length := by omega
  generalize (chI order n.toNat).map chD = cs at *
  generalize order.map rwD = os at *
  generalize dicR ws = wd at *
  generalize dicR vs = vd at *
  generalize dicR vs' = vd' at *
  clear hr hl hk hm hv hv' ho
  unfold law_closed_S2_L1_S3_L1 law_closed_S2_L1_S3_L1_S1 law_closed_S2_L1_S3_L1_S2
  generalize law_closed_S2_L1_S3_L1_S2_L1 = L at *
  unfold opD at *
  rcases h3 with rfl | rfl | rfl
  · walk_at "evh"
  · walk_at "evh"
  · walk_at "evh"
end
section
/-! ### closing rows, whole -/
theorem RowOk.ne {k : Int} {m : Nat} {r : List Int} (h : RowOk k m r) (hm : m = 1 ∨ m = 2 ∨ m = 3) : r ≠ [] := by
  rintro rfl
  have := h.1
  simp at this; omega
def ClosedV (k : Int) (m : Nat) (v : D) : Prop := v = .none ∨ ∃ l : List (List Int), v = .list (l.map rwD) ∧ l.Nodup ∧ ∀ r ∈ l, RowOk k m r
theorem lc_turn {k n : Int} {t : List Int} {m : Nat} {ws : List (List Int × D)} {A1 : D} {x4 x5 x6 x7 x8 x9 : SV} (ho : OpOk k (opD k n t)) (hk : k = 2 ∨ k = 3) (hm : m = 1 ∨ m = 2 ∨ m = 3) (hw : Kn k m ws) :
    (∃ ws' x5' x6' x7' x8' x9', Kn k m ws' ∧ law_closed_S2_L1 [.val (.tuple [opD k n t]), .val A1, .val (.int 30), .own (.dic (dicR ws)), x4, x5, x6, x7, x8, x9] = .nx [.val (.tuple [opD k n t]), .val A1, .val (.int 30), .own (.dic (dicR ws')), x4, x5', x6', x7', x8', x9']) ∨
    (∃ v s', law_closed_S2_L1 [.val (.tuple [opD k n t]), .val A1, .val (.int 30), .own (.dic (dicR ws)), x4, x5, x6, x7, x8, x9] = .rt (.val v) s' ∧ ClosedV k m v ∧ ∃ x3' x4' x5' x6' x7' x8' x9', s' = [.val (.tuple [opD k n t]), .val A1, .val (.int 30), x3', x4', x5', x6', x7', x8', x9']) := by
  have hl := hw.len hk hm
  have so := pSorted_dict (ws := ws) (fun r hr => (hw.ok r hr).ne hm) (by omega)
  have hmem : ∀ r ∈ sortR (keysR ws), RowOk k m r := fun r hr => hw.ok r (sortR_mem.mp hr)
  have hl2 : (sortR (keysR ws)).length ≤ 27 := by rw [sortR_len]; simpa [keysR] using hl
  have hnd : (sortR (keysR ws)).Nodup := (sortR_perm _).nodup_iff.mpr hw.nd
  obtain ⟨vs, x8', x9', ⟨hv, hz⟩, e⟩ := lc_maker (ws := ws) (vs := []) (A0 := .tuple [opD k n t]) (A1 := A1) (A2 := .int 30) (x4 := x4) (x8 := x8) (x9 := x9) ho hmem hl2 hk hm Kn.nil
  have e : law_closed_S2_L1_S3_L1 [.val (.tuple [opD k n t]), .val A1, .val (.int 30), .own (.dic (dicR ws)), x4, .own (.dic []), .own (.lst ((sortR (keysR ws)).map rwD)), .val (opD k n t), x8, x9] = .nx [.val (.tuple [opD k n t]), .val A1, .val (.int 30), .own (.dic (dicR ws)), x4, .own (.dic (dicR vs)), .val (.list ((sortR (keysR ws)).map rwD)), .val (opD k n t), x8', x9'] := e
  have fl : forLoop (.one 7) law_closed_S2_L1_S3_L1 [opD k n t] [.val (.tuple [opD k n t]), .val A1, .val (.int 30), .own (.dic (dicR ws)), x4, .own (.dic []), .own (.lst ((sortR (keysR ws)).map rwD)), x7, x8, x9] = .nx [.val (.tuple [opD k n t]), .val A1, .val (.int 30), .own (.dic (dicR ws)), x4, .own (.dic (dicR vs)), .val (.list ((sortR (keysR ws)).map rwD)), .val (opD k n t), x8', x9'] := by
    rw [forLoop_step (s1 := [.val (.tuple [opD k n t]), .val A1, .val (.int 30), .own (.dic (dicR ws)), x4, .own (.dic []), .own (.lst ((sortR (keysR ws)).map rwD)), .val (opD k n t), x8, x9]) rfl e]
    rfl
  by_cases hvs : vs = []
  · refine .inr ⟨.list ((sortR (keysR ws)).map rwD), [.val (.tuple [opD k n t]), .val A1, .val (.int 30), .own (.dic (dicR ws)), x4, .own (.dic []), .val (.list ((sortR (keysR ws)).map rwD)), .val (opD k n t), x8', x9'], ?_, .inr ⟨_, rfl, hnd, hmem⟩, _, _, _, _, _, _, _, rfl⟩
    subst hvs
    replace fl : forLoop (.one 7) law_closed_S2_L1_S3_L1 [opD k n t] [.val (.tuple [opD k n t]), .val A1, .val (.int 30), .own (.dic (dicR ws)), x4, .own (.dic []), .own (.lst ((sortR (keysR ws)).map rwD)), x7, x8, x9] = .nx [.val (.tuple [opD k n t]), .val A1, .val (.int 30), .own (.dic (dicR ws)), x4, .own (.dic []), .val (.list ((sortR (keysR ws)).map rwD)), .val (opD k n t), x8', x9'] := fl
    clear e hz hv hnd hmem hl2 hl hw ho hk hm
    generalize ((sortR (keysR ws)).map rwD) = os at *
    generalize dicR ws = wd at *
    generalize opD k n t = o at *
    unfold law_closed_S2_L1 law_closed_S2_L1_S1 law_closed_S2_L1_S2 law_closed_S2_L1_S3 law_closed_S2_L1_S4 semDic0
    generalize law_closed_S2_L1_S3_L1 = L at *
    walk_at "evh"
  · have hne : ws ≠ [] := by
      rintro rfl
      exact hvs (hz (by unfold sortR keysR; simp))
    have up := upd_rows (ws := ws) (vs := vs) hne hvs (by have := hv.len hk hm; omega)
    have hM := hw.merge (vs := vs) hv.ok
    have hML := hM.len hk hm
    have nt : ¬ (30 : Int) < (dicR (mergeR ws vs)).length := by simp [dicR]; omega
    have vne : dicR vs ≠ [] := by
      cases vs with
      | nil => exact (hvs rfl).elim
      | cons v vs => exact fun z => by cases z
    refine .inl ⟨mergeR ws vs, .val (.dict (dicR vs)), .val (.list ((sortR (keysR ws)).map rwD)), .val (opD k n t), x8', x9', hM, ?_⟩
    clear e hz hv hnd hmem hl2 hl hw ho hk hm hne hM hML hvs
    generalize ((sortR (keysR ws)).map rwD) = os at *
    generalize dicR (mergeR ws vs) = md at *
    generalize dicR ws = wd at *
    generalize dicR vs = vd at *
    generalize opD k n t = o at *
    unfold law_closed_S2_L1 law_closed_S2_L1_S1 law_closed_S2_L1_S2 law_closed_S2_L1_S3 law_closed_S2_L1_S4 law_closed_S2_L1_S5 law_closed_S2_L1_S6 semDic0
    generalize law_closed_S2_L1_S3_L1 = L at *
    walk_at "evh"
theorem sp_closed {k n : Int} {t : List Int} {m : Nat} {rows : List (List Int)} (ho : OpOk k (opD k n t)) (hk : k = 2 ∨ k = 3) (hm : m = 1 ∨ m = 2 ∨ m = 3) (hr : ∀ r ∈ rows, RowOk k m r) :
    ∃ v, ClosedV k m v ∧ cs__law_closed [.val (.tuple [opD k n t]), .val (.list (rows.map rwD)), .val (.int 30)] = .ok (.val v) [.val (.tuple [opD k n t]), .val (.list (rows.map rwD)), .val (.int 30)] := by
  have cl : compLoop [9] (.one 9) (fun s => .ok true s) law_closed_S1_C1 (rows.map rwD) [.val (.tuple [opD k n t]), .val (.list (rows.map rwD)), .val (.int 30), .un, .un, .un, .un, .un, .un, .un] = .ok (rows.map fun r => .tuple [rwD r, .bool true]) [.val (.tuple [opD k n t]), .val (.list (rows.map rwD)), .val (.int 30), .un, .un, .un, .un, .un, .un, .un] := by
    refine compLoop_mapOf rwD _ _ _ _ rfl fun r hr => ⟨_, rfl, _, rfl, ?_⟩
    generalize rwD r = x at *
    generalize rows.map rwD = rs at *
    generalize opD k n t = o at *
    clear ho hr
    unfold law_closed_S1_C1
    walk_at "evh"
  have pd := pDictP_rows (.bool true) rows
  have hK : Kn k m (setR rows) := Kn.nil.addR hr
  have key := forLoop_ret (t := .one 4) (b := law_closed_S2_L1) (fun s => ∃ ws x4 x5 x6 x7 x8 x9, Kn k m ws ∧ s = [.val (.tuple [opD k n t]), .val (.list (rows.map rwD)), .val (.int 30), .own (.dic (dicR ws)), x4, x5, x6, x7, x8, x9])
    (fun s => ∃ x3' x4' x5' x6' x7' x8' x9', s = [.val (.tuple [opD k n t]), .val (.list (rows.map rwD)), .val (.int 30), x3', x4', x5', x6', x7', x8', x9'])
    (fun r => ∃ v, r = .val v ∧ ClosedV k m v) (rangeD 0 31) [.val (.tuple [opD k n t]), .val (.list (rows.map rwD)), .val (.int 30), .own (.dic (dicR (setR rows))), .un, .un, .un, .un, .un, .un] ⟨setR rows, _, _, _, _, _, _, hK, rfl⟩ fun d hd s hs => by
      obtain ⟨ws, x4, x5, x6, x7, x8, x9, hw, rfl⟩ := hs
      refine ⟨_, rfl, ?_⟩
      rcases lc_turn (A1 := .list (rows.map rwD)) (x4 := .val d) (x5 := x5) (x6 := x6) (x7 := x7) (x8 := x8) (x9 := x9) ho hk hm hw with ⟨ws', x5', x6', x7', x8', x9', hw', e⟩ | ⟨v, s', e, hv, hq⟩
      · exact .inl ⟨_, e, _, _, _, _, _, _, _, hw', rfl⟩
      · exact .inr ⟨_, _, e, ⟨v, rfl, hv⟩, hq⟩
  unfold setR at *
  generalize dicR (addR (.bool true) [] rows) = ds at *
  generalize (rows.map fun r => PyData.tuple [rwD r, .bool true]) = ps at *
  generalize rows.map rwD = rs at *
  rcases key with ⟨s', e, ws, x4, x5, x6, x7, x8, x9, -, rfl⟩ | ⟨_, s', e, ⟨v, rfl, hv⟩, x3, x4, x5, x6, x7, x8, x9, rfl⟩
  · refine ⟨.none, .inl rfl, ?_⟩
    generalize dicR ws = wd at *
    generalize opD k n t = o at *
    clear hK hr ho hk hm
    unfold cs__law_closed
    rw [law_closed_eq]
    unfold law_closed_S1 law_closed_S2 law_closed_S3
    generalize law_closed_S1_C1 = C at *
    generalize law_closed_S2_L1 = L at *
    walk_at "evh"
  · refine ⟨v, hv, ?_⟩
    generalize opD k n t = o at *
    clear hK hr ho hk hm hv
    unfold cs__law_closed
    rw [law_closed_eq]
    unfold law_closed_S1 law_closed_S2 law_closed_S3
    generalize law_closed_S1_C1 = C at *
    generalize law_closed_S2_L1 = L at *
    walk_at "evh"
end
section
/-! ### the law, first parts -/
def law_S1 : SemS := semSet 1 (semCall cs__law_draws [.one (semNv 0)])
def law_S2 : SemS := semSet 1 (semCall cs__law_more [.one (semNh 1), .one (semC (.int 200))])
def law_S3 : SemS := semSet 2 (semTup [.one (semC (.int 2)), .one (semC (.int 2)), .one (fz (semTup [.one (fz (semTup [.one (semC (.int 0)), .one (semC (.int 0))])), .one (fz (semTup [.one (semC (.int 0)), .one (semC (.int 1))])), .one (fz (semTup [.one (semC (.int 1)), .one (semC (.int 1))]))]))])
def law_S4 : SemS := semIfS (semCmpB pNe (fz (semCallB pRepr [.one (fz (semLst [.one (fz (semCall cs_broken_rows [.one (fz (semTup [.one (semC (.int 2)), .one (semC (.int 2)), .one (fz (semTup [.one (semC (.int 1)), .one (semC (.int 1)), .one (semC (.int 1)), .one (semC (.int 0))]))])), .one (semNv 2)])), .one (fz (semCall cs_keeps [.one (fz (semTup [.one (semC (.int 2)), .one (semC (.int 2)), .one (fz (semTup [.one (semC (.int 0)), .one (semC (.int 0)), .one (semC (.int 0)), .one (semC (.int 1))]))])), .one (semNv 2)]))]))])) (fz (semCallB pRepr [.one (fz (semLst [.one (fz (semTup [.one (fz (semTup [.one (semC (.int 0)), .one (semC (.int 1))])), .one (fz (semTup [.one (semC (.int 0)), .one (semC (.int 1))]))])), .one (semC (.bool true))]))]))) (semSeqS (semRet (semC (.bool false))) semNx) semNx
def law_S5 : SemS := semSet 3 (semBin pAdd (semC (.int 2)) (fz (semBin pMod (fz (semCallB pInt [.one (fz (semCall cs__law_next [.one (semNh 1)]))])) (semC (.int 2)))))
def law_S6 : SemS := semSet 4 (semBin pAdd (semC (.int 1)) (fz (semBin pMod (fz (semCallB pInt [.one (fz (semCall cs__law_next [.one (semNh 1)]))])) (semC (.int 3)))))
def law_S7 : SemS := semSet 5 (semCall cs__law_pick [.one (semNh 1), .one (fz (semLst [.one (semC (.int 2)), .one (semC (.int 3)), .one (semC (.int 4))]))])
def law_S8_Q1 : SemB := semCmpB pEq (fz (semBin pMod (fz (semCallB pInt [.one (fz (semCall cs__law_next [.one (semNh 1)]))])) (semNh 5))) (semC (.int 0))
def law_S8_C2 : Sem := semNv 19
def law_S8 : SemS := semSet 6 (semComp [19] (.one 19) (semSeq (fz (semCall cs__law_tuples [.one (semNv 3), .one (semNv 4)]))) law_S8_Q1 law_S8_C2)
def law_S9 : SemS := semSet 7 (semCall cs__law_operation [.one (semNh 1), .one (semNv 3)])
def law_S10 : SemS := semIfS (semCmpB pEq (fz (semBin pMod (fz (semCallB pInt [.one (fz (semCall cs__law_next [.one (semNh 1)]))])) (semC (.int 2)))) (semC (.int 0))) (semSeqS (semSet 8 (semCall cs__law_closed [.one (fz (semTup [.one (semNv 7)])), .one (semNv 6), .one (semC (.int 30))])) (semSeqS (semSet 6 (semIf (semCmpB pIs (semNh 8) (semC .none)) (semNv 6) (semNv 8))) semNx)) semNx
def law_S11 : SemS := semSet 9 (semTup [.one (semNv 3), .one (semNv 4), .one (fz (semCallB pTuple [.one (fz (semCallB pSorted [.one (semNh 6)]))]))])
def law_S12 : SemS := semIfS (semAnd (semCmpB pGt (fz (semCallB pLen [.one (semNh 6)])) (semC (.int 15))) (semCmpB pGt (fz (semBin pSub1 (semNh 7) (semC (.int 1)))) (semC (.int 2)))) (semSeqS (semSet 9 (semTup [.one (semNv 3), .one (semNv 4), .one (fz (semCallB pTuple [.one (fz (semCallB pSorted [.one (fz (semSlice (semNh 6) none (some (semC (.int 15)))))]))]))])) semNx) semNx
def law_S13 : SemS := semSet 10 (semCall cs__law_broken [.one (semNv 7), .one (semNv 9)])
def law_S14_C1 : Sem := fz (semCall cs__law_asked [.one (semNv 20), .one (semNv 7), .one (semNv 9), .one (semC .none)])
def law_S14 : SemS := semIfS (semCmpB pNe (fz (semCallB pRepr [.one (fz (semComp [20] (.one 20) (semRange1 [.one (semC (.int 2))]) (fun s => .ok true s) law_S14_C1))])) (fz (semCallB pRepr [.one (fz (semLst [.one (fz (semBin pIs (semNh 10) (semC .none))), .one (semNv 10)]))]))) (semSeqS (semRet (semC (.bool false))) semNx) semNx
def law_S15_C1 : Sem := fz (semCall cs__law_pick [.one (semNh 1), .one (fz (semBin pSub1 (semNh 9) (semC (.int 2))))])
def law_S15 : SemS := semSet 11 (semLst [.one (fz (semIf (semCmpB pIs (semNh 10) (semC .none)) (semTup []) (semNv 10))), .one (fz (semIf (semTru (fz (semBin pSub1 (semNh 9) (semC (.int 2))))) (semCallB pTuple [.one (fz (semComp [21] (.one 21) (semRange1 [.one (fz (semBin pSub1 (semNh 7) (semC (.int 1))))]) (fun s => .ok true s) law_S15_C1))]) (semTup [.one (fz (semBin pMul (fz (semTup [.one (semC (.int 0))])) (semNh 4)))]))), .one (fz (semBin pMul (fz (semTup [.one (fz (semBin pMul (fz (semTup [.one (semC (.int 9))])) (semNh 4)))])) (fz (semBin pSub1 (semNh 7) (semC (.int 1)))))), .one (fz (semTup []))])
def law_S16_L1_S1_C1 : Sem := fz (semBin pIn (semNh 19) (fz (semBin pSub1 (semNh 9) (semC (.int 2)))))
def law_S16_L1_S1 : SemS := semSet 13 (semAndV (fz (semBin pEq (fz (semCallB pLen [.one (semNh 12)])) (fz (semBin pSub1 (semNh 7) (semC (.int 1)))))) (semAndV (fz (semCallB pAll [.one (fz (semComp [19] (.one 19) (semSeq (semNv 12)) (fun s => .ok true s) law_S16_L1_S1_C1))])) (semBin pNotIn (fz (semCall cs__law_made_of [.one (semNv 7), .one (semNv 12)])) (fz (semBin pSub1 (semNh 9) (semC (.int 2)))))))
def law_S16_L1_S2 : SemS := semIfS (semCmpB pNe (fz (semCallB pRepr [.one (fz (semCall cs__law_asked [.one (semC (.int 2)), .one (semNv 7), .one (semNv 9), .one (semNv 12)]))])) (fz (semCallB pRepr [.one (semNh 13)]))) (semSeqS (semRet (semC (.bool false))) semNx) semNx
def law_S16_L1 : SemS := semSeqS law_S16_L1_S1 (semSeqS law_S16_L1_S2 semNx)
def law_S16 : SemS := semFor (.one 12) (semSeq (fz (semBin pAdd (semNh 11) (fz (semLst [.one (fz (semCallB pTuple [.one (fz (semSlice (fz (semBin pSub1 (semNh 11) (semC (.int 0)))) none (some (fz (semUn pNeg (semC (.int 1)))))))]))]))))) law_S16_L1
def law_S17 : SemS := semSet 14 (semLst [.one (fz (semTup [.one (semC (.int 1)), .one (semC (.int 1)), .one (fz (semTup []))])), .one (fz (semTup [.one (semC (.int 4)), .one (semC (.int 1)), .one (fz (semTup []))])), .one (fz (semTup [.one (semNv 3), .one (semC (.int 0)), .one (fz (semTup []))])), .one (fz (semTup [.one (semNv 3), .one (semC (.int 28)), .one (fz (semTup []))])), .one (fz (semTup [.one (semNv 3), .one (semC (.int 1)), .one (fz (semTup [.one (fz (semTup [.one (semC (.int 0))])), .one (fz (semTup [.one (semC (.int 0))]))]))])), .one (fz (semTup [.one (semNv 3), .one (semC (.int 1)), .one (fz (semTup [.one (fz (semTup [.one (semC (.int 1))])), .one (fz (semTup [.one (semC (.int 0))]))]))])), .one (fz (semTup [.one (semNv 3), .one (semC (.int 2)), .one (fz (semTup [.one (fz (semTup [.one (semC (.int 0))]))]))])), .one (fz (semTup [.one (semNv 3), .one (semC (.int 1)), .one (fz (semTup [.one (fz (semTup [.one (semNv 3)]))]))])), .one (fz (semTup [.one (semNv 3), .one (semC (.int 1)), .one (fz (semTup [.one (fz (semTup [.one (fz (semUn pNeg (semC (.int 1))))]))]))]))])
def law_S18_C1 : Sem := fz (semCall cs_is_relation [.one (semNv 12)])
def law_S18 : SemS := semIfS (semCmpB pNe (fz (semComp [12] (.one 12) (semSeq (fz (semBin pAdd (semNh 14) (fz (semLst [.one (semNv 9), .one (fz (semTup [.one (semNv 3), .one (semC (.int 27)), .one (fz (semTup [.one (fz (semBin pMul (fz (semTup [.one (semC (.int 0))])) (semC (.int 27))))]))])), .one (fz (semTup [.one (semNv 3), .one (semC (.int 1)), .one (fz (semTup []))]))]))))) (fun s => .ok true s) law_S18_C1)) (fz (semBin pAdd (fz (semBin pMul (fz (semLst [.one (semC (.bool false))])) (semC (.int 9)))) (fz (semBin pMul (fz (semLst [.one (semC (.bool true))])) (semC (.int 3))))))) (semSeqS (semRet (semC (.bool false))) semNx) semNx
def law_S19 : SemS := semAsg (.tup (.cons (.one 15) (.cons (.one 16) .nil))) (semTup [.one (fz (semCall cs__law_pick [.one (semNh 1), .one (semNv 14)])), .one (fz (semTup [.one (fz (semBin pSub (semC (.int 5)) (semNh 3))), .one (semC (.int 1)), .one (fz (semTup [.one (fz (semTup [.one (semC (.int 0))]))]))]))])
def law_S20_C1 : Sem := fz (semCall cs__law_asked [.one (semNv 20), .one (fz (semTup [.one (semNv 3), .one (semC (.int 1)), .one (fz (semBin pMul (fz (semTup [.one (semC (.int 9))])) (semNh 3)))])), .one (semNv 15), .one (fz (semTup []))])
def law_S20_C2 : Sem := fz (semCall cs__law_asked [.one (semNv 20), .one (semNv 7), .one (semNv 15), .one (fz (semTup []))])
def law_S20_C3 : Sem := fz (semCall cs__law_asked [.one (semNv 20), .one (semNv 7), .one (semNv 16), .one (fz (semTup []))])
def law_S20 : SemS := semSet 17 (semBin pAdd (fz (semBin pAdd (fz (semComp [20] (.one 20) (semRange1 [.one (semC (.int 3))]) (fun s => .ok true s) law_S20_C1)) (fz (semComp [20] (.one 20) (semRange1 [.one (semC (.int 3))]) (fun s => .ok true s) law_S20_C2)))) (fz (semComp [20] (.one 20) (semRange1 [.one (semC (.int 3))]) (fun s => .ok true s) law_S20_C3)))
def law_S21 : SemS := semSet 18 (semTup [.one (semC (.int 2)), .one (semC (.int 10)), .one (fz (semCallB pTuple [.one (fz (semSlice (fz (semCall cs__law_tuples [.one (semC (.int 2)), .one (semC (.int 10))])) none (some (semC (.int 548)))))]))])
def law_S22_C1 : Sem := fz (semCall cs__law_asked [.one (semNv 20), .one (fz (semTup [.one (semC (.int 2)), .one (semC (.int 2)), .one (fz (semTup [.one (semC (.int 0)), .one (semC (.int 0)), .one (semC (.int 0)), .one (semC (.int 1))]))])), .one (semNv 18), .one (fz (semTup []))])
def law_S22 : SemS := semSet 17 (semBin pAdd (semNh 17) (fz (semComp [20] (.one 20) (semRange1 [.one (semC (.int 2))]) (fun s => .ok true s) law_S22_C1)))
def law_S23 : SemS := semRet (semBin pEq (semNh 17) (fz (semBin pAdd (fz (semBin pAdd (fz (semBin pAdd (fz (semBin pMul (fz (semLst [.one (semC (.str "!operation"))])) (semC (.int 3)))) (fz (semBin pMul (fz (semLst [.one (semC (.str "!relation"))])) (semC (.int 3)))))) (fz (semBin pMul (fz (semLst [.one (semC (.str "!number"))])) (semC (.int 3)))))) (fz (semBin pMul (fz (semLst [.one (semC (.str "!large"))])) (semC (.int 2)))))))
theorem law_eq : b_law = semSeqS law_S1 (semSeqS law_S2 (semSeqS law_S3 (semSeqS law_S4 (semSeqS law_S5 (semSeqS law_S6 (semSeqS law_S7 (semSeqS law_S8 (semSeqS law_S9 (semSeqS law_S10 (semSeqS law_S11 (semSeqS law_S12 (semSeqS law_S13 (semSeqS law_S14 (semSeqS law_S15 (semSeqS law_S16 (semSeqS law_S17 (semSeqS law_S18 (semSeqS law_S19 (semSeqS law_S20 (semSeqS law_S21 (semSeqS law_S22 (semSeqS law_S23 semNx)))))))))))))))))))))) := rfl
theorem law_start (ns : List Int) (h : ns.length ≤ 63) : ∃ l : List Int, thenS (law_S1 ([.val (.list (ns.map .int))] ++ List.replicate 21 .un)) law_S2 = .nx ([.val (.list (ns.map .int)), .own (.lst (dr l))] ++ List.replicate 20 .un) := by
  obtain ⟨l1, h1, z1⟩ := sp_draws ns h
  obtain ⟨l2, l3, z2⟩ := sp_more l1 200 (by decide) (by omega)
  have z2 : cs__law_more [.own (.lst (dr l1)), .val (.int 200)] = .ok (.own (.lst (dr l2))) [.own (.lst (dr l3)), .val (.int 200)] := z2
  refine ⟨l2, ?_⟩
  generalize List.map PyData.int ns = sc at *
  clear h h1
  show thenS (law_S1 [.val (.list sc), .un, .un, .un, .un, .un, .un, .un, .un, .un, .un, .un, .un, .un, .un, .un, .un, .un, .un, .un, .un, .un]) law_S2 = .nx [.val (.list sc), .own (.lst (dr l2)), .un, .un, .un, .un, .un, .un, .un, .un, .un, .un, .un, .un, .un, .un, .un, .un, .un, .un, .un, .un]
  unfold law_S1 law_S2
  walk_at "evh"
theorem sp_pickT (l : List Int) {xs : List D} (h : xs ≠ []) : ∃ x ∈ xs, cs__law_pick [.own (.lst (dr l)), .val (.tuple xs)] = .ok (.val x) [.own (.lst (dr l.tail)), .val (.tuple xs)] := by
  have hl : 0 < xs.length := List.length_pos_iff.mpr h
  have hl' : (0 : Int) < (xs.length : Int) := by omega
  obtain ⟨h0, h1⟩ := mod_in (a := hd l) hl'
  have hi : (hd l % (xs.length : Int)).toNat < xs.length := by omega
  refine ⟨_, List.getElem_mem hi, ?_⟩
  have z := sp_next l
  have g := atI_of h0 (List.getElem?_eq_getElem hi)
  generalize xs[(hd l % (xs.length : Int)).toNat] = x at *
  clear hi h0 h1
  unfold cs__law_pick b__law_pick
  walk_at "evh"
def ordD : D := relD 2 2 [[0, 0], [0, 1], [1, 1]]
/-- a comprehension that keeps what a draw tells -/
theorem compLoop_sub {α : Type} {vs : List Nat} {t : Tg} {c : SemB} {f : Sem} (h : α → D) (P : Sg → Prop) : ∀ (l : List α) (s : Sg), P (unS vs s) →
    (∀ d ∈ l, ∀ s, P s → ∃ s1, t.bind (h d) s = some s1 ∧ ∃ b s2, c s1 = .ok b s2 ∧ ((b = false ∧ P (unS vs s2)) ∨ (b = true ∧ ∃ s3, f s2 = .ok (.val (h d)) s3 ∧ P (unS vs s3)))) →
    ∃ (l' : List α) (s' : Sg), compLoop vs t c f (l.map h) s = .ok (l'.map h) s' ∧ l'.Sublist l ∧ P s'
  | [], s, h0, _ => ⟨[], _, rfl, List.Sublist.refl _, h0⟩
  | d :: l, s, h0, st => by
    obtain ⟨s1, e1, b, s2, e2, h2⟩ := st d (List.mem_cons_self ..) _ h0
    rcases h2 with ⟨rfl, h2⟩ | ⟨rfl, s3, e3, h3⟩
    · obtain ⟨l', s', e, sb, hp⟩ := compLoop_sub h P l s2 h2 fun x hx => st x (List.mem_cons_of_mem _ hx)
      refine ⟨l', s', ?_, sb.cons d, hp⟩
      simp only [List.map_cons, compLoop, e1, e2, Re.bindN, Bool.false_eq_true, if_false, e]
    · obtain ⟨l', s', e, sb, hp⟩ := compLoop_sub h P l s3 h3 fun x hx => st x (List.mem_cons_of_mem _ hx)
      refine ⟨d :: l', s', ?_, sb.cons_cons d, hp⟩
      simp only [List.map_cons, compLoop, e1, e2, Re.bindN, if_true, e3, e]
section
variable (a0 a1 a2 a3 a4 a5 a6 a7 a8 a9 a10 a11 a12 a13 a14 a15 a16 a17 a18 : SV)
theorem S3_ok : law_S3 [a0, a1, a2, a3, a4, a5, a6, a7, a8, a9, a10, a11, a12, a13, a14, a15, a16, a17, a18, .un, .un, .un] = .nx [a0, a1, .val ordD, a3, a4, a5, a6, a7, a8, a9, a10, a11, a12, a13, a14, a15, a16, a17, a18, .un, .un, .un] := by
  unfold law_S3 ordD relD rwD
  walk_at "ev"
theorem ord1 : cs_broken_rows [.val (.tuple [.int 2, .int 2, .tuple [.int 1, .int 1, .int 1, .int 0]]), .val ordD] = .ok (.val (.tuple [.tuple [.int 0, .int 1], .tuple [.int 0, .int 1]])) [.val (.tuple [.int 2, .int 2, .tuple [.int 1, .int 1, .int 1, .int 0]]), .val ordD] := by kernel_rfl
theorem ord2 : cs_keeps [.val (.tuple [.int 2, .int 2, .tuple [.int 0, .int 0, .int 0, .int 1]]), .val ordD] = .ok (.val (.bool true)) [.val (.tuple [.int 2, .int 2, .tuple [.int 0, .int 0, .int 0, .int 1]]), .val ordD] := by kernel_rfl
theorem S4_ok : law_S4 [a0, a1, .val ordD, a3, a4, a5, a6, a7, a8, a9, a10, a11, a12, a13, a14, a15, a16, a17, a18, .un, .un, .un] = .nx [a0, a1, .val ordD, a3, a4, a5, a6, a7, a8, a9, a10, a11, a12, a13, a14, a15, a16, a17, a18, .un, .un, .un] := by
  have z1 := ord1
  have z2 := ord2
  obtain ⟨x, hx⟩ : ∃ x, PyData.shown (.list [.tuple [.tuple [.int 0, .int 1], .tuple [.int 0, .int 1]], .bool true]) = x := ⟨_, rfl⟩
  have sm : smD (.list [.tuple [.tuple [.int 0, .int 1], .tuple [.int 0, .int 1]], .bool true]) = true := by decide
  have r1 : pRepr [.list [.tuple [.tuple [.int 0, .int 1], .tuple [.int 0, .int 1]], .bool true]] = some (.val (.str x)) := hx ▸ repr_sm sm (by decide) (by decide)
  have r2 : PyData.strOk x = true := hx ▸ repr_ok sm
  clear hx sm
  generalize ordD = o at *
  unfold law_S4
  walk_at "evh"
theorem S5_ok (l : List Int) : ∃ k : Int, (k = 2 ∨ k = 3) ∧ law_S5 [a0, .own (.lst (dr l)), a2, a3, a4, a5, a6, a7, a8, a9, a10, a11, a12, a13, a14, a15, a16, a17, a18, .un, .un, .un] = .nx [a0, .own (.lst (dr l.tail)), a2, .val (.int k), a4, a5, a6, a7, a8, a9, a10, a11, a12, a13, a14, a15, a16, a17, a18, .un, .un, .un] := by
  obtain ⟨m0, m1⟩ := mod_in (a := hd l) (m := 2) (by decide)
  have z := sp_next l
  refine ⟨2 + hd l % 2, by omega, ?_⟩
  clear m0 m1
  unfold law_S5
  walk_at "evh"
theorem S6_ok (l : List Int) : ∃ m : Nat, (m = 1 ∨ m = 2 ∨ m = 3) ∧ law_S6 [a0, .own (.lst (dr l)), a2, a3, a4, a5, a6, a7, a8, a9, a10, a11, a12, a13, a14, a15, a16, a17, a18, .un, .un, .un] = .nx [a0, .own (.lst (dr l.tail)), a2, a3, .val (.int m), a5, a6, a7, a8, a9, a10, a11, a12, a13, a14, a15, a16, a17, a18, .un, .un, .un] := by
  obtain ⟨m0, m1⟩ := mod_in (a := hd l) (m := 3) (by decide)
  have z := sp_next l
  refine ⟨(1 + hd l % 3).toNat, by omega, ?_⟩
  have e : ((1 + hd l % 3).toNat : Int) = 1 + hd l % 3 := by omega
  rw [e]
  clear m0 m1 e
  unfold law_S6
  walk_at "evh"
theorem S7_ok (l : List Int) : ∃ o : Int, 0 < o ∧ law_S7 [a0, .own (.lst (dr l)), a2, a3, a4, a5, a6, a7, a8, a9, a10, a11, a12, a13, a14, a15, a16, a17, a18, .un, .un, .un] = .nx [a0, .own (.lst (dr l.tail)), a2, a3, a4, .val (.int o), a6, a7, a8, a9, a10, a11, a12, a13, a14, a15, a16, a17, a18, .un, .un, .un] := by
  obtain ⟨x, hx, z⟩ := sp_pick l (xs := [.int 2, .int 3, .int 4]) (by simp)
  have : ∃ o : Int, x = .int o ∧ 0 < o := by
    simp only [List.mem_cons, List.not_mem_nil, or_false] at hx
    rcases hx with rfl | rfl | rfl
    · exact ⟨2, rfl, by decide⟩
    · exact ⟨3, rfl, by decide⟩
    · exact ⟨4, rfl, by decide⟩
  obtain ⟨o, rfl, ho⟩ := this
  refine ⟨o, ho, ?_⟩
  clear hx
  unfold law_S7
  walk_at "evh"
theorem law_rows {k : Int} {m : Nat} (hk : k = 2 ∨ k = 3) (hm : m = 1 ∨ m = 2 ∨ m = 3) : ∃ l : List (List Int), cs__law_tuples [.val (.int k), .val (.int m)] = .ok (.val (.list (l.map rwD))) [.val (.int k), .val (.int m)] ∧ l.Nodup ∧ ∀ r ∈ l, RowOk k m r := by
  have nd : ∀ p ∈ kn6, (rowsI p.1 p.2).Nodup := by decide
  have key : ∀ p ∈ kn6, ∃ l : List (List Int), cs__law_tuples [.val (.int p.1), .val (.int p.2)] = .ok (.val (.list (l.map rwD))) [.val (.int p.1), .val (.int p.2)] ∧ l.Nodup ∧ ∀ r ∈ l, RowOk p.1 p.2 r := fun p hp => ⟨_, sp_law_tuples p hp, nd p hp, rows_ok p hp⟩
  rcases hk with rfl | rfl <;> rcases hm with rfl | rfl | rfl
  · exact key (2, 1) (by decide)
  · exact key (2, 2) (by decide)
  · exact key (2, 3) (by decide)
  · exact key (3, 1) (by decide)
  · exact key (3, 2) (by decide)
  · exact key (3, 3) (by decide)
theorem S8_ok {k o : Int} {m : Nat} (hk : k = 2 ∨ k = 3) (hm : m = 1 ∨ m = 2 ∨ m = 3) (ho : 0 < o) (l : List Int) : ∃ (l' : List Int) (rows : List (List Int)), rows.Nodup ∧ (∀ r ∈ rows, RowOk k m r) ∧
    law_S8 [a0, .own (.lst (dr l)), a2, .val (.int k), .val (.int m), .val (.int o), a6, a7, a8, a9, a10, a11, a12, a13, a14, a15, a16, a17, a18, .un, .un, .un] = .nx [a0, .own (.lst (dr l')), a2, .val (.int k), .val (.int m), .val (.int o), .own (.lst (rows.map rwD)), a7, a8, a9, a10, a11, a12, a13, a14, a15, a16, a17, a18, .un, .un, .un] := by
  obtain ⟨L, z, nd, ok⟩ := law_rows hk hm
  obtain ⟨rows, s', e, sb, l', rfl⟩ := compLoop_sub (vs := [19]) (t := .one 19) (c := law_S8_Q1) (f := law_S8_C2) rwD (fun s => ∃ l, s = [a0, .own (.lst (dr l)), a2, .val (.int k), .val (.int m), .val (.int o), a6, a7, a8, a9, a10, a11, a12, a13, a14, a15, a16, a17, a18, .un, .un, .un]) L [a0, .own (.lst (dr l)), a2, .val (.int k), .val (.int m), .val (.int o), a6, a7, a8, a9, a10, a11, a12, a13, a14, a15, a16, a17, a18, .un, .un, .un] ⟨_, rfl⟩ fun r hr s hs => by
    obtain ⟨l1, rfl⟩ := hs
    refine ⟨_, rfl, ?_⟩
    have y := sp_next l1
    refine ⟨decide (hd l1 % o = 0), [a0, .own (.lst (dr l1.tail)), a2, .val (.int k), .val (.int m), .val (.int o), a6, a7, a8, a9, a10, a11, a12, a13, a14, a15, a16, a17, a18, .val (rwD r), .un, .un], ?_, ?_⟩
    · clear z nd ok hr hk hm
      generalize rwD r = x at *
      unfold law_S8_Q1
      walk_at "evh"
    · by_cases c : hd l1 % o = 0
      · exact .inr ⟨decide_eq_true c, _, rfl, _, rfl⟩
      · exact .inl ⟨decide_eq_false c, _, rfl⟩
  refine ⟨l', rows, nd.sublist sb, fun r hr => ok r (sb.subset hr), ?_⟩
  clear nd ok sb hk hm ho
  generalize L.map rwD = Ls at *
  generalize rows.map rwD = rs at *
  unfold law_S8
  generalize law_S8_Q1 = q at *
  generalize law_S8_C2 = f at *
  walk_at "evh"
theorem S9_ok {k : Int} (hk : k = 2 ∨ k = 3) (l : List Int) : ∃ (l' : List Int) (n : Int) (t : List Int), OpOk k (opD k n t) ∧ law_S9 [a0, .own (.lst (dr l)), a2, .val (.int k), a4, a5, a6, a7, a8, a9, a10, a11, a12, a13, a14, a15, a16, a17, a18, .un, .un, .un] = .nx [a0, .own (.lst (dr l')), a2, .val (.int k), a4, a5, a6, .val (opD k n t), a8, a9, a10, a11, a12, a13, a14, a15, a16, a17, a18, .un, .un, .un] := by
  obtain ⟨l', d, ho, z⟩ := sp_operation hk l
  obtain ⟨n, t, rfl⟩ := ho.at0
  refine ⟨l', n, t, ho, ?_⟩
  generalize opD k n t = o at *
  clear ho hk
  unfold law_S9
  walk_at "evh"
end
end
section
/-! ### the law: the relation, what is due -/
/-! repr of what is due -/
theorem row_sm {k n : Int} {r : List Int} (hk : k ≤ 3) (hn : n ≤ 3) (h : RowOk k n r) : smD (rwD r) = true ∧ wD (rwD r) ≤ 123 ∧ (rwD r).depth ≤ 1 := by
  have hl := h.1
  refine ⟨?_, ?_, ?_⟩
  · simp only [rwD, smD]
    refine smAll_map fun e he => ?_
    have := h.2 e he
    simp only [smD, decide_eq_true_eq]
    omega
  · simp only [rwD, wD]
    have := wAll_map (f := PyData.int) (l := r) (W := 40) fun e _ => by simp [wD]
    omega
  · simp only [rwD, PyData.depth]
    have := depthAll_map (f := PyData.int) (l := r) (W := 0) fun e _ => by simp [PyData.depth]
    omega
theorem rows_sm {k n : Int} {rs : List (List Int)} (hk : k ≤ 3) (hn : n ≤ 3) (hl : rs.length ≤ 27) (h : ∀ r ∈ rs, RowOk k n r) : smAll (rs.map rwD) = true ∧ wAll (rs.map rwD) ≤ 3500 ∧ PyData.depthAll (rs.map rwD) ≤ 1 := by
  refine ⟨smAll_map fun r hr => (row_sm hk hn (h r hr)).1, ?_, depthAll_map fun r hr => (row_sm hk hn (h r hr)).2.2⟩
  have := wAll_map (f := rwD) (l := rs) (W := 123) fun r hr => (row_sm hk hn (h r hr)).2.1
  omega
def Lst6 (c6 : SV) (rows : List (List Int)) : Prop := c6 = .own (.lst (rows.map rwD)) ∨ c6 = .val (.list (rows.map rwD))
section
variable (a0 a1 a2 a3 a4 a5 a6 a7 a8 a9 a10 a11 a12 a13 a14 a15 a16 a17 a18 : SV)
theorem S10_ok {k n : Int} {t : List Int} {m : Nat} {rows : List (List Int)} (hk : k = 2 ∨ k = 3) (hm : m = 1 ∨ m = 2 ∨ m = 3) (ho : OpOk k (opD k n t)) (nd : rows.Nodup) (hr : ∀ r ∈ rows, RowOk k m r) (l : List Int) : ∃ (l' : List Int) (rows' : List (List Int)) (c6 c8 : SV), Lst6 c6 rows' ∧ rows'.Nodup ∧ (∀ r ∈ rows', RowOk k m r) ∧
    law_S10 [a0, .own (.lst (dr l)), a2, a3, a4, a5, .own (.lst (rows.map rwD)), .val (opD k n t), a8, a9, a10, a11, a12, a13, a14, a15, a16, a17, a18, .un, .un, .un] = .nx [a0, .own (.lst (dr l')), a2, a3, a4, a5, c6, .val (opD k n t), c8, a9, a10, a11, a12, a13, a14, a15, a16, a17, a18, .un, .un, .un] := by
  have z := sp_next l
  by_cases c : hd l % 2 = 0
  · obtain ⟨v, hv, y⟩ := sp_closed ho hk hm hr
    rcases hv with rfl | ⟨r2, rfl, nd2, ok2⟩
    · refine ⟨l.tail, rows, .val (.list (rows.map rwD)), .val .none, .inr rfl, nd, hr, ?_⟩
      generalize rows.map rwD = rs at *
      generalize opD k n t = o at *
      have p : pIs .none .none = some (.val (.bool true)) := rfl
      clear nd hr hk hm ho
      unfold law_S10
      walk_at "evh"
    · refine ⟨l.tail, r2, .val (.list (r2.map rwD)), .val (.list (r2.map rwD)), .inr rfl, nd2, ok2, ?_⟩
      generalize rows.map rwD = rs at *
      generalize r2.map rwD = r2s at *
      generalize opD k n t = o at *
      have p : pIs (.list r2s) .none = some (.val (.bool false)) := rfl
      clear nd hr hk hm ho nd2 ok2
      unfold law_S10
      walk_at "evh"
  · refine ⟨l.tail, rows, .own (.lst (rows.map rwD)), a8, .inl rfl, nd, hr, ?_⟩
    generalize rows.map rwD = rs at *
    generalize opD k n t = o at *
    clear nd hr hk hm ho
    unfold law_S10
    walk_at "evh"
theorem S11_ok {k : Int} {m : Nat} {rows : List (List Int)} {c6 : SV} (hm : m = 1 ∨ m = 2 ∨ m = 3) (h6 : Lst6 c6 rows) (hr : ∀ r ∈ rows, RowOk k m r) (hl : rows.length ≤ 27) :
    law_S11 [a0, a1, a2, .val (.int k), .val (.int m), a5, c6, a7, a8, a9, a10, a11, a12, a13, a14, a15, a16, a17, a18, .un, .un, .un] = .nx [a0, a1, a2, .val (.int k), .val (.int m), a5, c6, a7, a8, .val (relD k m (sortR rows)), a10, a11, a12, a13, a14, a15, a16, a17, a18, .un, .un, .un] := by
  have so := pSorted_rows (l := rows) (fun r h => (hr r h).ne hm) (by omega)
  unfold relD
  generalize (sortR rows).map rwD = ss at *
  unfold Lst6 at h6
  generalize rows.map rwD = rs at *
  clear hr hl hm
  rcases h6 with rfl | rfl
  · unfold law_S11
    walk_at "evh"
  · unfold law_S11
    walk_at "evh"
theorem cut_15 (l : List D) : cutD l none (some 15) = l.take 15 := by
  unfold cutD
  have e1 : HT.sIx l.length 0 none = 0 := rfl
  have e2 : HT.sIx l.length l.length (some 15) = min 15 l.length := by simp [HT.sIx]
  rw [e1, e2, List.drop_zero, Nat.sub_zero]
  by_cases h : l.length ≤ 15
  · rw [Nat.min_eq_right h, List.take_of_length_le (Nat.le_refl _), List.take_of_length_le h]
  · rw [Nat.min_eq_left (by omega)]
theorem S12_ok {k n : Int} {t : List Int} {m : Nat} {rows : List (List Int)} {c6 : SV} (hk : k = 2 ∨ k = 3) (hm : m = 1 ∨ m = 2 ∨ m = 3) (ho : OpOk k (opD k n t)) (h6 : Lst6 c6 rows) (hr : ∀ r ∈ rows, RowOk k m r) (nd : rows.Nodup) :
    ∃ R, Case k n t m R ∧ law_S12 [a0, a1, a2, .val (.int k), .val (.int m), a5, c6, .val (opD k n t), a8, .val (relD k m (sortR rows)), a10, a11, a12, a13, a14, a15, a16, a17, a18, .un, .un, .un] = .nx [a0, a1, a2, .val (.int k), .val (.int m), a5, c6, .val (opD k n t), a8, .val (relD k m R), a10, a11, a12, a13, a14, a15, a16, a17, a18, .un, .un, .un] := by
  have hl := rows27 hk hm hr nd
  have mk : ∀ R0 : List (List Int), R0.Nodup → (∀ r ∈ R0, RowOk k m r) → R0.length ≤ 27 → Case k n t m (sortR R0) := fun R0 h1 h2 h3 =>
    ⟨ho, ⟨by omega, by omega, by rw [sortR_len]; omega, fun r h => h2 r (sortR_mem.mp h), sortR_up h1⟩, by rw [sortR_len]; exact h3⟩
  by_cases c : 15 < rows.length ∧ 2 < n
  · refine ⟨sortR (rows.take 15), mk _ (nd.sublist (List.take_sublist _ _)) (fun r h => hr r (List.mem_of_mem_take h)) (by simp; omega), ?_⟩
    have so := pSorted_rows (l := rows.take 15) (fun r h => (hr r (List.mem_of_mem_take h)).ne hm) (by simp; omega)
    rw [List.map_take, ← cut_15] at so
    obtain ⟨c1, c2⟩ := c
    have c1 : (15 : Int) < (rows.map rwD).length := by simp; omega
    unfold relD
    generalize (sortR (rows.take 15)).map rwD = ss at *
    generalize (sortR rows).map rwD = s0 at *
    unfold Lst6 at h6
    generalize rows.map rwD = rs at *
    clear hr hl hm mk ho hk nd
    unfold opD
    rcases h6 with rfl | rfl
    · unfold law_S12
      walk_at "evh"
    · unfold law_S12
      walk_at "evh"
  · refine ⟨sortR rows, mk _ nd hr hl, ?_⟩
    unfold relD
    generalize (sortR rows).map rwD = s0 at *
    unfold Lst6 at h6
    by_cases c1 : 15 < rows.length
    · have c2 : ¬ 2 < n := fun z => c ⟨c1, z⟩
      have c1 : (15 : Int) < (rows.map rwD).length := by simp; omega
      generalize rows.map rwD = rs at *
      clear hr hl hm mk ho hk nd c
      unfold opD
      rcases h6 with rfl | rfl
      · unfold law_S12
        walk_at "evh"
      · unfold law_S12
        walk_at "evh"
    · have c1 : ¬ (15 : Int) < (rows.map rwD).length := by simp; omega
      generalize rows.map rwD = rs at *
      clear hr hl hm mk ho hk nd c
      unfold opD
      rcases h6 with rfl | rfl
      · unfold law_S12
        walk_at "evh"
      · unfold law_S12
        walk_at "evh"
theorem S13_ok {k n : Int} {t : List Int} {m : Nat} {R : List (List Int)} (C : Case k n t m R) : law_S13 [a0, a1, a2, a3, a4, a5, a6, .val (opD k n t), a8, .val (relD k m R), a10, a11, a12, a13, a14, a15, a16, a17, a18, .un, .un, .un] = .nx [a0, a1, a2, a3, a4, a5, a6, .val (opD k n t), a8, .val (relD k m R), .val (dueD (dueS (opD k n t) n m R)), a11, a12, a13, a14, a15, a16, a17, a18, .un, .un, .un] := by
  have z := sp_law_broken C
  clear C
  generalize dueD (dueS (opD k n t) n m R) = v at *
  generalize opD k n t = o at *
  generalize relD k m R = r at *
  unfold law_S13
  walk_at "evh"
theorem due_sm {k n : Int} {t : List Int} {m : Nat} {R : List (List Int)} (C : Case k n t m R) (b : Bool) (hm : m ≤ 3) : smD (.list [.bool b, dueD (dueS (opD k n t) n m R)]) = true ∧ wD (.list [.bool b, dueD (dueS (opD k n t) n m R)]) ≤ 1000000 ∧ (PyData.list [.bool b, dueD (dueS (opD k n t) n m R)]).depth ≤ 64 := by
  cases e : dueS (opD k n t) n m R with
  | none => cases b <;> exact ⟨rfl, by decide, by decide⟩
  | some s =>
    have hs : s ∈ chI R n.toNat := List.mem_of_find?_eq_some e
    obtain ⟨h1, h2⟩ := C.ch hs
    have n3 := C.n3
    have hk := C.rl.k2
    obtain ⟨s1, s2, s3⟩ := rows_sm (k := k) (n := m) (rs := s) (by omega) (by omega) (by omega) h1
    refine ⟨?_, ?_, ?_⟩
    · simp only [dueD, chD, smD, smAll, s1, Bool.and_self]
    · simp only [dueD, chD, wD, wAll]; omega
    · simp only [dueD, chD, PyData.depth, PyData.depthAll]; omega
theorem due_is (v : Option (List (List Int))) : pIs (dueD v) .none = some (.val (.bool v.isNone)) := by cases v <;> rfl
theorem S14_ok {k n : Int} {t : List Int} {m : Nat} {R : List (List Int)} (C : Case k n t m R) (hm : m ≤ 3) : law_S14 [a0, a1, a2, a3, a4, a5, a6, .val (opD k n t), a8, .val (relD k m R), .val (dueD (dueS (opD k n t) n m R)), a11, a12, a13, a14, a15, a16, a17, a18, .un, .un, .un] = .nx [a0, a1, a2, a3, a4, a5, a6, .val (opD k n t), a8, .val (relD k m R), .val (dueD (dueS (opD k n t) n m R)), a11, a12, a13, a14, a15, a16, a17, a18, .un, .un, .un] := by
  obtain ⟨s1, s2, s3⟩ := due_sm C (dueS (opD k n t) n m R).isNone hm
  obtain ⟨x, hx⟩ : ∃ x, PyData.shown (.list [.bool (dueS (opD k n t) n m R).isNone, dueD (dueS (opD k n t) n m R)]) = x := ⟨_, rfl⟩
  have r1 : pRepr [.list [.bool (dueS (opD k n t) n m R).isNone, dueD (dueS (opD k n t) n m R)]] = some (.val (.str x)) := hx ▸ repr_sm s1 s2 s3
  have r2 : PyData.strOk x = true := hx ▸ repr_ok s1
  have z0 := sp_asked0 C .none
  have z1 := sp_asked1 C .none
  have p := due_is (dueS (opD k n t) n m R)
  clear s1 s2 s3 hx C hm
  generalize (dueS (opD k n t) n m R).isNone = b at *
  generalize dueD (dueS (opD k n t) n m R) = v at *
  generalize opD k n t = o at *
  generalize relD k m R = r at *
  have c : compLoop [20] (.one 20) (fun s => .ok true s) law_S14_C1 (rangeD 0 2) [a0, a1, a2, a3, a4, a5, a6, .val o, a8, .val r, .val v, a11, a12, a13, a14, a15, a16, a17, a18, .un, .un, .un] = .ok [.bool b, v] [a0, a1, a2, a3, a4, a5, a6, .val o, a8, .val r, .val v, a11, a12, a13, a14, a15, a16, a17, a18, .un, .un, .un] := by
    show compLoop _ _ _ _ [.int 0, .int 1] _ = _
    simp only [compLoop]
    unfold law_S14_C1
    walk_at "evh"
  unfold law_S14
  generalize law_S14_C1 = L at *
  walk_at "evh"
end
end
section
/-! ### the law: tuples of rows -/
theorem mul1 {x : D} {N : Nat} (h : N ≤ 1000) : pMul (.tuple [x]) (.int N) = some (.val (.tuple (List.replicate N x))) := by
  have e1 : absLe (N : Int) 1000 = true := absLe_iff.mpr (by omega)
  have e2 : (List.replicate N [x]).flatten = List.replicate N x := by
    induction N with
    | zero => rfl
    | succ N ih => rw [List.replicate_succ, List.flatten_cons, ih (by omega) (absLe_iff.mpr (by omega))]; rfl
  unfold pMul
  simp only [e1, Bool.true_and, Int.toNat_natCast, e2, List.length_cons, List.length_nil]
  rfl
theorem cut_last (l : List D) : cutD l none (some (-1)) = l.dropLast := by
  unfold cutD
  have e1 : HT.sIx l.length 0 none = 0 := rfl
  have e2 : HT.sIx l.length l.length (some (-1)) = l.length - 1 := by simp [HT.sIx]; omega
  rw [e1, e2, List.drop_zero, Nat.sub_zero, List.dropLast_eq_take]
section
variable (a0 a1 a2 a3 a4 a5 a6 a7 a8 a9 a10 a11 a12 a13 a14 a15 a16 a17 a18 : SV)
theorem S15_ok {k n : Int} {t : List Int} {m : Nat} {R : List (List Int)} (C : Case k n t m R) (hm : m ≤ 3) (l : List Int) (v : Option (List (List Int))) : ∃ (l' : List Int) (s1 : List (List Int)), law_S15 [a0, .own (.lst (dr l)), a2, a3, .val (.int m), a5, a6, .val (opD k n t), a8, .val (relD k m R), .val (dueD v), a11, a12, a13, a14, a15, a16, a17, a18, .un, .un, .un] = .nx [a0, .own (.lst (dr l')), a2, a3, .val (.int m), a5, a6, .val (opD k n t), a8, .val (relD k m R), .val (dueD v), .own (.lst [chD (v.getD []), chD s1, chD (List.replicate n.toNat (List.replicate m 9)), chD []]), a12, a13, a14, a15, a16, a17, a18, .un, .un, .un] := by
  have p := due_is v
  have n3 := C.n3
  obtain ⟨N, hN⟩ : ∃ N : Nat, n = N := ⟨n.toNat, by omega⟩
  have m9 := mul1 (x := .int 9) (N := m) (by omega)
  have m0 := mul1 (x := .int 0) (N := m) (by omega)
  have mn := mul1 (x := .tuple (List.replicate m (.int 9))) (N := N) (by omega)
  have e9 : chD (List.replicate n.toNat (List.replicate m 9)) = .tuple (List.replicate N (.tuple (List.replicate m (.int 9)))) := by
    subst hN
    unfold chD rwD
    rw [List.map_replicate, List.map_replicate, Int.toNat_natCast]
  have e00 : chD [] = .tuple [] := rfl
  have r1 : (-1000000 : Int) ≤ N := by omega
  have r2 : (N : Int) ≤ 1000000 := by omega
  have t1 : semIf (semCmpB pIs (semNh 10) (semC .none)) (semTup []) (semNv 10) = semIf (semCmpB pIs (semNh 10) (semC .none)) (semTup []) (semNv 10) := rfl
  rw [e9, e00]
  clear e9 e00 t1
  by_cases c : R = []
  · subst c
    refine ⟨l, [List.replicate m 0], ?_⟩
    have e0 : chD [List.replicate m 0] = .tuple [.tuple (List.replicate m (.int 0))] := by
      unfold chD rwD
      rw [List.map_cons, List.map_replicate, List.map_nil]
    rw [e0]
    clear e0 C
    subst hN
    unfold relD opD
    generalize List.replicate m (PyData.int 0) = z0 at *
    generalize List.replicate m (PyData.int 9) = z9 at *
    generalize List.replicate N (PyData.tuple z9) = zN at *
    unfold law_S15
    generalize law_S15_C1 = L at *
    cases v with
    | none =>
      simp only [dueD, Option.isNone] at *
      rw [show chD ((none : Option (List (List Int))).getD []) = .tuple [] from rfl]
      walk_at "evl"
    | some s =>
      rw [show chD ((some s : Option (List (List Int))).getD []) = chD s from rfl]
      simp only [dueD, Option.isNone] at *
      generalize chD s = cs at *
      walk_at "evl"
  · have hne : R.map rwD ≠ [] := by simpa using c
    obtain ⟨ys, s', e1, ⟨l', hs⟩, e3, e4⟩ := compLoop_run (vs := [21]) (t := .one 21) (c := fun s => .ok true s) (f := law_S15_C1) (fun _ s => ∃ l', s = [a0, .own (.lst (dr l')), a2, a3, .val (.int m), a5, a6, .val (opD k n t), a8, .val (relD k m R), .val (dueD v), a11, a12, a13, a14, a15, a16, a17, a18, .un, .un, .un]) (fun _ y => y ∈ R.map rwD) (ds := rangeD 0 N) (s := [a0, .own (.lst (dr l)), a2, a3, .val (.int m), a5, a6, .val (opD k n t), a8, .val (relD k m R), .val (dueD v), a11, a12, a13, a14, a15, a16, a17, a18, .un, .un, .un]) ⟨_, rfl⟩
      (fun i d s hdd hs => by
        obtain ⟨l1, rfl⟩ := hs
        obtain ⟨y, hy, z2⟩ := sp_pickT l1 hne
        refine ⟨_, rfl, _, rfl, y, [a0, .own (.lst (dr l1.tail)), a2, a3, .val (.int m), a5, a6, .val (opD k n t), a8, .val (relD k m R), .val (dueD v), a11, a12, a13, a14, a15, a16, a17, a18, .un, .un, .val d], ?_, hy, ⟨_, rfl⟩⟩
        unfold relD
        generalize R.map rwD = rs at *
        clear p C hdd hy m9 m0 mn
        generalize dueD v = dv at *
        generalize opD k n t = o at *
        unfold law_S15_C1
        walk_at "evh")
    have hy : ∃ s1 : List (List Int), ys = s1.map rwD := by
      have : ∀ y ∈ ys, ∃ r, y = rwD r := fun y hy => by
        obtain ⟨i, hi', rfl⟩ := List.mem_iff_getElem.mp hy
        obtain ⟨r, -, h⟩ := List.mem_map.mp (e4 i _ (List.getElem?_eq_getElem hi'))
        exact ⟨r, h.symm⟩
      clear e1 e3 e4
      induction ys with
      | nil => exact ⟨[], rfl⟩
      | cons y ys ih =>
        obtain ⟨r, rfl⟩ := this y (List.mem_cons_self ..)
        obtain ⟨s1, rfl⟩ := ih fun x hx => this x (List.mem_cons_of_mem _ hx)
        exact ⟨r :: s1, rfl⟩
    subst hs
    clear e3 e4
    obtain ⟨s1, rfl⟩ := hy
    refine ⟨l', s1, ?_⟩
    unfold relD opD at *
    rw [show chD s1 = .tuple (s1.map rwD) from rfl]
    generalize R.map rwD = rs at *
    generalize s1.map rwD = ss at *
    clear C c
    subst hN
    generalize List.replicate m (PyData.int 0) = z0 at *
    generalize List.replicate m (PyData.int 9) = z9 at *
    generalize List.replicate N (PyData.tuple z9) = zN at *
    have tr : rs.isEmpty = false := by cases rs with
      | nil => exact (hne rfl).elim
      | cons a b => rfl
    unfold law_S15
    generalize law_S15_C1 = L at *
    cases v with
    | none =>
      simp only [dueD, Option.isNone] at *
      rw [show chD ((none : Option (List (List Int))).getD []) = .tuple [] from rfl]
      walk_at "evl"
    | some s =>
      rw [show chD ((some s : Option (List (List Int))).getD []) = chD s from rfl]
      simp only [dueD, Option.isNone] at *
      generalize chD s = cs at *
      walk_at "evl"
end
end
section
/-! ### the law: looked at tuple by tuple -/
section
variable (a0 a1 a2 a3 a4 a5 a6 a7 a8 a9 a10 a11 a12 a13 a14 a15 a16 a17 a18 : SV)
theorem S16_one {k n : Int} {t : List Int} {m : Nat} {R : List (List Int)} (C : Case k n t m R) (s : List (List Int)) : law_S16_L1_S1 [a0, a1, a2, a3, a4, a5, a6, .val (opD k n t), a8, .val (relD k m R), a10, a11, .val (chD s), a13, a14, a15, a16, a17, a18, .un, .un, .un] = .nx [a0, a1, a2, a3, a4, a5, a6, .val (opD k n t), a8, .val (relD k m R), a10, a11, .val (chD s), .val (.bool (rgt (opD k n t) n m R s)), a14, a15, a16, a17, a18, .un, .un, .un] := by
  have cl : compLoop [19] (.one 19) (fun s => .ok true s) law_S16_L1_S1_C1 (s.map rwD) [a0, a1, a2, a3, a4, a5, a6, .val (opD k n t), a8, .val (relD k m R), a10, a11, .val (chD s), a13, a14, a15, a16, a17, a18, .un, .un, .un] = .ok (s.map fun r => .bool (decide (r ∈ R))) [a0, a1, a2, a3, a4, a5, a6, .val (opD k n t), a8, .val (relD k m R), a10, a11, .val (chD s), a13, a14, a15, a16, a17, a18, .un, .un, .un] := by
    refine compLoop_mapOf rwD _ _ _ _ rfl fun r hr => ⟨_, rfl, _, rfl, ?_⟩
    have y := in_rowsT R r
    generalize decide (r ∈ R) = b at *
    generalize rwD r = x at *
    unfold relD at *
    generalize R.map rwD = rs at *
    generalize opD k n t = o at *
    generalize chD s = cd at *
    clear C hr
    unfold law_S16_L1_S1_C1
    walk_at "evh"
  have pa := pAll_of (fun r => decide (r ∈ R)) s
  have e3 : (s.map rwD).length = s.length := by simp
  unfold rgt
  by_cases c1 : (s.length : Int) = n
  · rw [decide_eq_true c1]
    cases c2 : s.all fun r => decide (r ∈ R) with
    | true =>
      have hr : ∀ r ∈ s, RowOk k m r := fun r hr => C.rl.ok r (by simpa using List.all_eq_true.mp c2 r hr)
      have z2 := sp_law_made_of C.op hr c1 C.m27
      have y := notIn_rowsT R (mkI (opD k n t) m s)
      rw [c2] at pa
      generalize decide (mkI (opD k n t) m s ∈ R) = q at *
      generalize rwD (mkI (opD k n t) m s) = w at *
      generalize (s.map fun r => PyData.bool (decide (r ∈ R))) = bs at *
      unfold relD at *
      generalize R.map rwD = rs at *
      unfold chD at *
      rw [← e3] at c1
      generalize s.map rwD = ss at *
      clear C hr c2 e3
      unfold law_S16_L1_S1
      generalize law_S16_L1_S1_C1 = L at *
      unfold opD at *
      walk_at "evh"
    | false =>
      rw [c2] at pa
      generalize (s.map fun r => PyData.bool (decide (r ∈ R))) = bs at *
      unfold relD at *
      generalize R.map rwD = rs at *
      unfold chD at *
      rw [← e3] at c1
      generalize s.map rwD = ss at *
      clear C c2 e3
      unfold law_S16_L1_S1
      generalize law_S16_L1_S1_C1 = L at *
      unfold opD at *
      walk_at "evh"
  · rw [decide_eq_false c1]
    generalize (s.map fun r => PyData.bool (decide (r ∈ R))) = bs at *
    unfold relD at *
    generalize R.map rwD = rs at *
    unfold chD at *
    rw [← e3] at c1
    generalize s.map rwD = ss at *
    clear C e3 cl pa
    unfold law_S16_L1_S1
    generalize law_S16_L1_S1_C1 = L at *
    unfold opD at *
    walk_at "evh"
theorem bool_repr (b : Bool) : ∃ x, pRepr [.bool b] = some (.val (.str x)) ∧ PyData.strOk x = true := by
  have s1 : smD (.bool b) = true := rfl
  exact ⟨_, repr_sm s1 (by simp [wD]) (by simp [PyData.depth]), repr_ok s1⟩
theorem S16_two {k n : Int} {t : List Int} {m : Nat} {R : List (List Int)} (C : Case k n t m R) (s : List (List Int)) : law_S16_L1_S2 [a0, a1, a2, a3, a4, a5, a6, .val (opD k n t), a8, .val (relD k m R), a10, a11, .val (chD s), .val (.bool (rgt (opD k n t) n m R s)), a14, a15, a16, a17, a18, .un, .un, .un] = .nx [a0, a1, a2, a3, a4, a5, a6, .val (opD k n t), a8, .val (relD k m R), a10, a11, .val (chD s), .val (.bool (rgt (opD k n t) n m R s)), a14, a15, a16, a17, a18, .un, .un, .un] := by
  have z := sp_asked2 C s
  obtain ⟨x, r1, r2⟩ := bool_repr (rgt (opD k n t) n m R s)
  generalize rgt (opD k n t) n m R s = b at *
  generalize opD k n t = o at *
  generalize relD k m R = r at *
  generalize chD s = c at *
  clear C
  unfold law_S16_L1_S2
  walk_at "evh"
theorem S16_ok {k n : Int} {t : List Int} {m : Nat} {R : List (List Int)} (C : Case k n t m R) (s0 s1 s2 s3 : List (List Int)) : ∃ c12 c13, (c12 = .un ∨ ∃ d, c12 = .val d) ∧ law_S16 [a0, a1, a2, a3, a4, a5, a6, .val (opD k n t), a8, .val (relD k m R), a10, .own (.lst [chD s0, chD s1, chD s2, chD s3]), .un, a13, a14, a15, a16, a17, a18, .un, .un, .un] = .nx [a0, a1, a2, a3, a4, a5, a6, .val (opD k n t), a8, .val (relD k m R), a10, .own (.lst [chD s0, chD s1, chD s2, chD s3]), c12, c13, a14, a15, a16, a17, a18, .un, .un, .un] := by
  obtain ⟨s', e, c12, c13, h12, rfl⟩ := forLoop_run (t := .one 12) (b := law_S16_L1) (fun _ s => ∃ c12 c13, (c12 = .un ∨ ∃ d, c12 = .val d) ∧ s = [a0, a1, a2, a3, a4, a5, a6, .val (opD k n t), a8, .val (relD k m R), a10, .own (.lst [chD s0, chD s1, chD s2, chD s3]), c12, c13, a14, a15, a16, a17, a18, .un, .un, .un]) (ds := [s0, s1, s2, s3, s0.dropLast].map chD) (s := [a0, a1, a2, a3, a4, a5, a6, .val (opD k n t), a8, .val (relD k m R), a10, .own (.lst [chD s0, chD s1, chD s2, chD s3]), .un, a13, a14, a15, a16, a17, a18, .un, .un, .un])
    ⟨_, _, .inl rfl, rfl⟩ (fun i d s hd hs => by
      obtain ⟨c12, c13, -, rfl⟩ := hs
      obtain ⟨q, hq, rfl⟩ := List.mem_map.mp (List.mem_of_getElem? hd)
      refine ⟨_, rfl, [a0, a1, a2, a3, a4, a5, a6, .val (opD k n t), a8, .val (relD k m R), a10, .own (.lst [chD s0, chD s1, chD s2, chD s3]), .val (chD q), .val (.bool (rgt (opD k n t) n m R q)), a14, a15, a16, a17, a18, .un, .un, .un], .inl ?_, _, _, .inr ⟨_, rfl⟩, rfl⟩
      have e1 := S16_one a0 a1 a2 a3 a4 a5 a6 a8 a10 (.own (.lst [chD s0, chD s1, chD s2, chD s3])) c13 a14 a15 a16 a17 a18 C q
      have e2 := S16_two a0 a1 a2 a3 a4 a5 a6 a8 a10 (.own (.lst [chD s0, chD s1, chD s2, chD s3])) a14 a15 a16 a17 a18 C q
      show law_S16_L1 [a0, a1, a2, a3, a4, a5, a6, .val (opD k n t), a8, .val (relD k m R), a10, .own (.lst [chD s0, chD s1, chD s2, chD s3]), .val (chD q), c13, a14, a15, a16, a17, a18, .un, .un, .un] = _
      unfold law_S16_L1
      simp only [seqS_eq, e1, e2, thenS_nx]
      rfl)
  have e : forLoop (.one 12) law_S16_L1 [chD s0, chD s1, chD s2, chD s3, chD s0.dropLast] [a0, a1, a2, a3, a4, a5, a6, .val (opD k n t), a8, .val (relD k m R), a10, .own (.lst [chD s0, chD s1, chD s2, chD s3]), .un, a13, a14, a15, a16, a17, a18, .un, .un, .un] = .nx [a0, a1, a2, a3, a4, a5, a6, .val (opD k n t), a8, .val (relD k m R), a10, .own (.lst [chD s0, chD s1, chD s2, chD s3]), c12, c13, a14, a15, a16, a17, a18, .un, .un, .un] := e
  refine ⟨c12, c13, h12, ?_⟩
  have ed : chD s0.dropLast = .tuple (s0.map rwD).dropLast := by unfold chD; rw [List.map_dropLast]
  have cu := cut_last (s0.map rwD)
  rw [ed] at e
  rw [show chD s0 = .tuple (s0.map rwD) from rfl] at *
  generalize s0.map rwD = x0 at *
  generalize x0.dropLast = y0 at *
  generalize chD s1 = x1 at *
  generalize chD s2 = x2 at *
  generalize chD s3 = x3 at *
  generalize opD k n t = o at *
  generalize relD k m R = r at *
  clear ed C h12
  unfold law_S16
  generalize law_S16_L1 = L at *
  walk_at "evh"
end
end
section
/-! ### the law: relations with one thing wrong, errors -/
def wrongD (k : Int) : List D := [.tuple [.int 1, .int 1, .tuple []], .tuple [.int 4, .int 1, .tuple []], .tuple [.int k, .int 0, .tuple []], .tuple [.int k, .int 28, .tuple []], .tuple [.int k, .int 1, .tuple [.tuple [.int 0], .tuple [.int 0]]], .tuple [.int k, .int 1, .tuple [.tuple [.int 1], .tuple [.int 0]]], .tuple [.int k, .int 2, .tuple [.tuple [.int 0]]], .tuple [.int k, .int 1, .tuple [.tuple [.int k]]], .tuple [.int k, .int 1, .tuple [.tuple [.int (-1)]]]]
theorem wrong_not {k : Int} (hk : k = 2 ∨ k = 3) : ∀ d ∈ wrongD k, cs_is_relation [.val d] = .ok (.val (.bool false)) [.val d] := by
  intro d hd
  simp only [wrongD, List.mem_cons, List.not_mem_nil, or_false] at hd
  rcases hk with rfl | rfl <;> rcases hd with rfl | rfl | rfl | rfl | rfl | rfl | rfl | rfl | rfl <;> kernel_rfl
theorem rl_27 {k : Int} (hk : k = 2 ∨ k = 3) : Rl k 27 [List.replicate 27 0] := ⟨by omega, by decide, by decide, fun r hr => by
  rw [List.mem_singleton] at hr; subst hr
  exact ⟨by simp, fun e he => by have := List.eq_of_mem_replicate he; omega⟩, List.pairwise_singleton _ _⟩
theorem rl_0 {k : Int} (hk : k = 2 ∨ k = 3) : Rl k 1 [] := ⟨by omega, by decide, by decide, (fun r hr => by cases hr), List.Pairwise.nil⟩
theorem rl_odd {k : Int} (hk : k = 2 ∨ k = 3) : Rl (5 - k) 1 [[0]] := ⟨by omega, by decide, by decide, fun r hr => by
  rw [List.mem_singleton] at hr; subst hr
  exact ⟨by simp, fun e he => by simp at he; omega⟩, List.pairwise_singleton _ _⟩
theorem bools_ne : pNe (.list (List.replicate 9 (.bool false) ++ List.replicate 3 (.bool true))) (.list (List.replicate 9 (.bool false) ++ List.replicate 3 (.bool true))) = some (.val (.bool false)) := by kernel_rfl
section
variable (a0 a1 a2 a3 a4 a5 a6 a7 a8 a9 a10 a11 a12 a13 a14 a15 a16 a17 a18 : SV)
theorem S17_ok (k : Int) : law_S17 [a0, a1, a2, .val (.int k), a4, a5, a6, a7, a8, a9, a10, a11, a12, a13, a14, a15, a16, a17, a18, .un, .un, .un] = .nx [a0, a1, a2, .val (.int k), a4, a5, a6, a7, a8, a9, a10, a11, a12, a13, .own (.lst (wrongD k)), a15, a16, a17, a18, .un, .un, .un] := by
  unfold law_S17 wrongD
  walk_at "ev"
theorem S18_ok {k n : Int} {t : List Int} {m : Nat} {R : List (List Int)} (hk : k = 2 ∨ k = 3) (C : Case k n t m R) (h12 : a12 = .un ∨ ∃ d, a12 = .val d) : law_S18 [a0, a1, a2, .val (.int k), a4, a5, a6, a7, a8, .val (relD k m R), a10, a11, a12, a13, .own (.lst (wrongD k)), a15, a16, a17, a18, .un, .un, .un] = .nx [a0, a1, a2, .val (.int k), a4, a5, a6, a7, a8, .val (relD k m R), a10, a11, a12, a13, .own (.lst (wrongD k)), a15, a16, a17, a18, .un, .un, .un] := by
  have w := wrong_not hk
  have g := sp_is_relation C.rl
  have g27 := sp_is_relation (rl_27 hk)
  have g0 := sp_is_relation (rl_0 hk)
  have st : ∀ (d : D) (b : Bool), cs_is_relation [.val d] = .ok (.val (.bool b)) [.val d] → ∃ s3, law_S18_C1 [a0, a1, a2, .val (.int k), a4, a5, a6, a7, a8, .val (relD k m R), a10, a11, .val d, a13, .own (.lst (wrongD k)), a15, a16, a17, a18, .un, .un, .un] = .ok (.val (.bool b)) s3 ∧ unS [12] s3 = [a0, a1, a2, .val (.int k), a4, a5, a6, a7, a8, .val (relD k m R), a10, a11, .un, a13, .own (.lst (wrongD k)), a15, a16, a17, a18, .un, .un, .un] := fun d b h => by
    generalize relD k m R = r at *
    generalize wrongD k = ws at *
    clear w g g27 g0 C hk h12
    unfold law_S18_C1
    walk_at "evh"
  have c : compLoop [12] (.one 12) (fun s => .ok true s) law_S18_C1 (wrongD k ++ [relD k m R, relD k 27 [List.replicate 27 0], relD k 1 []]) [a0, a1, a2, .val (.int k), a4, a5, a6, a7, a8, .val (relD k m R), a10, a11, a12, a13, .own (.lst (wrongD k)), a15, a16, a17, a18, .un, .un, .un] = .ok (List.replicate 9 (.bool false) ++ List.replicate 3 (.bool true)) [a0, a1, a2, .val (.int k), a4, a5, a6, a7, a8, .val (relD k m R), a10, a11, .un, a13, .own (.lst (wrongD k)), a15, a16, a17, a18, .un, .un, .un] := by
    have key := compLoop_mapOf (vs := [12]) (t := .one 12) (c := fun s => .ok true s) (f := law_S18_C1) (Prod.fst : D × Bool → D) (fun p => .bool p.2) [a0, a1, a2, .val (.int k), a4, a5, a6, a7, a8, .val (relD k m R), a10, a11, .un, a13, .own (.lst (wrongD k)), a15, a16, a17, a18, .un, .un, .un] ((wrongD k).map (fun d => (d, false)) ++ [(relD k m R, true), (relD k 27 [List.replicate 27 0], true), (relD k 1 [], true)]) [a0, a1, a2, .val (.int k), a4, a5, a6, a7, a8, .val (relD k m R), a10, a11, a12, a13, .own (.lst (wrongD k)), a15, a16, a17, a18, .un, .un, .un] rfl fun p hp => by
      refine ⟨_, rfl, _, rfl, ?_⟩
      refine st p.1 p.2 ?_
      rcases List.mem_append.mp hp with hp | hp
      · obtain ⟨d, hd, rfl⟩ := List.mem_map.mp hp
        exact w d hd
      · simp only [List.mem_cons, List.not_mem_nil, or_false] at hp
        rcases hp with rfl | rfl | rfl
        · exact g
        · exact g27
        · exact g0
    have e1 : ((wrongD k).map (fun d => (d, false)) ++ [(relD k m R, true), (relD k 27 [List.replicate 27 0], true), (relD k 1 [], true)]).map (Prod.fst : D × Bool → D) = wrongD k ++ [relD k m R, relD k 27 [List.replicate 27 0], relD k 1 []] := rfl
    have e2 : ((wrongD k).map (fun d => (d, false)) ++ [(relD k m R, true), (relD k 27 [List.replicate 27 0], true), (relD k 1 [], true)]).map (fun p : D × Bool => PyData.bool p.2) = List.replicate 9 (.bool false) ++ List.replicate 3 (.bool true) := rfl
    rw [e1, e2] at key
    exact key
  have b := bools_ne
  have m27 := mul1 (x := .int 0) (N := 27) (by decide)
  have e27 : relD k 27 [List.replicate 27 0] = .tuple [.int k, .int 27, .tuple [.tuple (List.replicate 27 (.int 0))]] := by
    unfold relD rwD
    rw [List.map_cons, List.map_replicate, List.map_nil]
  have e1 : relD k 1 [] = .tuple [.int k, .int 1, .tuple []] := rfl
  rw [e27, e1] at c
  have m27 : pMul (.tuple [.int 0]) (.int 27) = some (.val (.tuple (List.replicate 27 (.int 0)))) := m27
  have pf : pMul (.list [.bool false]) (.int 9) = some (.own (.lst (List.replicate 9 (.bool false)))) := by kernel_rfl
  have pt : pMul (.list [.bool true]) (.int 3) = some (.own (.lst (List.replicate 3 (.bool true)))) := by kernel_rfl
  have pa : pAdd (.list (List.replicate 9 (.bool false))) (.list (List.replicate 3 (.bool true))) = some (.own (.lst (List.replicate 9 (.bool false) ++ List.replicate 3 (.bool true)))) := by kernel_rfl
  have wl : (wrongD k).length = 9 := rfl
  have pw : pAdd (.list (wrongD k)) (.list [relD k m R, .tuple [.int k, .int 27, .tuple [.tuple (List.replicate 27 (.int 0))]], .tuple [.int k, .int 1, .tuple []]]) = some (.own (.lst (wrongD k ++ [relD k m R, .tuple [.int k, .int 27, .tuple [.tuple (List.replicate 27 (.int 0))]], .tuple [.int k, .int 1, .tuple []]]))) := by
    have sz : ∀ (x y z : D), szOk ((wrongD k).length + [x, y, z].length) = true := fun x y z => szOk_of (by rw [wl]; simp)
    unfold pAdd
    simp only [sz, if_true]
  clear w g g27 g0 st e27 e1 C hk wl
  generalize relD k m R = r at *
  generalize List.replicate 27 (PyData.int 0) = z27 at *
  generalize (List.replicate 9 (PyData.bool false) ++ List.replicate 3 (PyData.bool true)) = bs at *
  generalize List.replicate 9 (PyData.bool false) = bf at *
  generalize List.replicate 3 (PyData.bool true) = bt at *
  generalize wrongD k ++ [r, .tuple [.int k, .int 27, .tuple [.tuple z27]], .tuple [.int k, .int 1, .tuple []]] = ws2 at *
  generalize wrongD k = ws at *
  unfold law_S18
  generalize law_S18_C1 = L at *
  rcases h12 with rfl | ⟨d, rfl⟩
  · walk_at "evl"
  · walk_at "evl"
end
end
section
/-! ### the law: what errors are told -/
section
variable {o r x : D} {c z : Str}
theorem ask_bad0 (hk : kindOf c = some z) (hx : cs_broken_rows [.val o, .val r] = .ex ⟨c, none⟩ [.val o, .val r]) : cs__law_asked [.val (.int 0), .val o, .val r, .val x] = .ok (.val (.str z)) [.val (.int 0), .val o, .val r, .val x] := by
  have y : cs_keeps [.val o, .val r] = .ex ⟨c, none⟩ [.val o, .val r] := by
    unfold cs_keeps b_keeps
    walk_at "evh"
  clear hx
  unfold cs__law_asked b__law_asked
  walk_at "evh"
theorem ask_bad1 (hk : kindOf c = some z) (hx : cs_broken_rows [.val o, .val r] = .ex ⟨c, none⟩ [.val o, .val r]) : cs__law_asked [.val (.int 1), .val o, .val r, .val x] = .ok (.val (.str z)) [.val (.int 1), .val o, .val r, .val x] := by
  unfold cs__law_asked b__law_asked
  walk_at "evh"
theorem br_bad (hx : cs_check_asked [.val o, .val r] = .ex ⟨c, none⟩ [.val o, .val r]) : cs_broken_rows [.val o, .val r] = .ex ⟨c, none⟩ [.val o, .val r] := by
  unfold cs_broken_rows b_broken_rows
  walk_at "evh"
theorem ask_bad2 (hk : kindOf c = some z) (hx : cs_check_asked [.val o, .val r] = .ex ⟨c, none⟩ [.val o, .val r]) : cs__law_asked [.val (.int 2), .val o, .val r, .val x] = .ok (.val (.str z)) [.val (.int 2), .val o, .val r, .val x] := by
  have y : cs_are_broken [.val o, .val r, .val x] = .ex ⟨c, none⟩ [.val o, .val r, .val x] := by
    unfold cs_are_broken b_are_broken
    walk_at "evh"
  clear hx
  unfold cs__law_asked b__law_asked
  walk_at "evh"
theorem ask_op (hx : cs_is_operation [.val o] = .ok (.val (.bool false)) [.val o]) : cs_check_asked [.val o, .val r] = .ex ⟨"NotOperation", none⟩ [.val o, .val r] := by
  have y : cs_check_operation [.val o] = .ex ⟨"NotOperation", none⟩ [.val o] := by
    unfold cs_check_operation b_check_operation
    walk_at "evh"
  clear hx
  unfold cs_check_asked b_check_asked
  walk_at "evh"
theorem ask_rel (ho : cs_check_operation [.val o] = .ok (.val .none) [.val o]) (hx : cs_is_relation [.val r] = .ok (.val (.bool false)) [.val r]) : cs_check_asked [.val o, .val r] = .ex ⟨"NotRelation", none⟩ [.val o, .val r] := by
  have y : cs_check_relation [.val r] = .ex ⟨"NotRelation", none⟩ [.val r] := by
    unfold cs_check_relation b_check_relation
    walk_at "evh"
  clear hx
  unfold cs_check_asked b_check_asked
  walk_at "evh"
theorem ask_num (ho : cs_check_operation [.val o] = .ok (.val .none) [.val o]) (hr : cs_check_relation [.val r] = .ok (.val .none) [.val r]) (hx : cs_check_one_k [.val o, .val r] = .ex ⟨"BadNumber", none⟩ [.val o, .val r]) : cs_check_asked [.val o, .val r] = .ex ⟨"BadNumber", none⟩ [.val o, .val r] := by
  unfold cs_check_asked b_check_asked
  walk_at "evh"
end
theorem kNO : kindOf "NotOperation" = some "!operation" := by kernel_rfl
theorem kNR : kindOf "NotRelation" = some "!relation" := by kernel_rfl
theorem kBN : kindOf "BadNumber" = some "!number" := by kernel_rfl
theorem kTL : kindOf "TooLarge" = some "!large" := by kernel_rfl
def op9 (k : Int) : D := .tuple [.int k, .int 1, .tuple (List.replicate k.toNat (.int 9))]
theorem op9_not {k : Int} (hk : k = 2 ∨ k = 3) : cs_is_operation [.val (op9 k)] = .ok (.val (.bool false)) [.val (op9 k)] := by
  rcases hk with rfl | rfl <;> kernel_rfl
theorem op9_mul {k : Int} (hk : k = 2 ∨ k = 3) : pMul (.tuple [.int 9]) (.int k) = some (.val (.tuple (List.replicate k.toNat (.int 9)))) := by
  rcases hk with rfl | rfl <;> kernel_rfl
theorem one_k_not {k n : Int} {t : List Int} (hk : k = 2 ∨ k = 3) : cs_check_one_k [.val (opD k n t), .val (relD (5 - k) 1 [[0]])] = .ex ⟨"BadNumber", none⟩ [.val (opD k n t), .val (relD (5 - k) 1 [[0]])] := by
  have h : ¬ k = 5 - k := by omega
  clear hk
  unfold cs_check_one_k b_check_one_k opD relD
  walk_at "evh"
/-! the wide one -/
theorem ltR_app : ∀ {a b : List Int} (x y : List Int), a.length = b.length → ltR a b = true → ltR (a ++ x) (b ++ y) = true
  | [], [], _, _, _, h => by simp [ltR, HT.lexLt] at h
  | p :: a, q :: b, x, y, hl, h => by
    unfold ltR at *
    rw [List.cons_append, List.cons_append, HT.lexLt_cons]
    rw [HT.lexLt_cons] at h
    by_cases c : p = q
    · rw [if_pos c] at h ⊢
      exact ltR_app x y (by simpa using hl) h
    · rw [if_neg c] at h ⊢; exact h
theorem ltR_pre : ∀ (a x y : List Int), ltR (a ++ x) (a ++ y) = ltR x y
  | [], x, y => rfl
  | p :: a, x, y => by
    unfold ltR
    rw [List.cons_append, List.cons_append, HT.lexLt_cons, if_pos rfl]
    exact ltR_pre a x y
theorem rowsI_ok {k : Nat} : ∀ {m : Nat} {r : List Int}, r ∈ rowsI k m → RowOk k m r
  | 0, r, h => by simp only [rowsI, List.mem_singleton] at h; subst h; exact ⟨rfl, fun e he => by cases he⟩
  | m + 1, r, h => by
    simp only [rowsI, List.mem_flatten, List.mem_map] at h
    obtain ⟨_, ⟨q, hq, rfl⟩, h⟩ := h
    obtain ⟨e, he, rfl⟩ := List.mem_map.mp h
    have ih := rowsI_ok hq
    have he := List.mem_range.mp he
    refine ⟨by simp; have := ih.1; omega, fun x hx => ?_⟩
    rcases List.mem_append.mp hx with hx | hx
    · exact ih.2 x hx
    · rw [List.mem_singleton] at hx
      subst hx
      simp only [Int.ofNat_eq_natCast]; omega
theorem rowsI_up (k : Nat) : ∀ m : Nat, UpR (rowsI k m)
  | 0 => List.pairwise_singleton _ _
  | m + 1 => by
    have ih := rowsI_up k m
    unfold UpR at *
    simp only [rowsI]
    rw [List.pairwise_flatten]
    refine ⟨fun l hl => ?_, ?_⟩
    · obtain ⟨r, hr, rfl⟩ := List.mem_map.mp hl
      rw [List.pairwise_map]
      refine List.Pairwise.imp (fun {a b} h => ?_) (List.pairwise_lt_range (n := k))
      rw [ltR_pre]
      have : (Int.ofNat a) ≠ Int.ofNat b := by simp only [Int.ofNat_eq_natCast]; omega
      unfold ltR
      rw [HT.lexLt_cons, if_neg this]
      simp only [Int.ofNat_eq_natCast, decide_eq_true_eq]; omega
    · rw [List.pairwise_map]
      refine List.Pairwise.imp_of_mem (fun {a b} ha hb h => ?_) ih
      intro x hx y hy
      obtain ⟨e, -, rfl⟩ := List.mem_map.mp hx
      obtain ⟨f, -, rfl⟩ := List.mem_map.mp hy
      have l1 := (rowsI_ok ha).1
      have l2 := (rowsI_ok hb).1
      exact ltR_app _ _ (by omega) h
def wideR : List (List Int) := (rowsI 2 10).take 548
theorem wideR_len : wideR.length = 548 := by unfold wideR; rw [List.length_take, rowsI_len]; rfl
theorem wide_rl : Rl 2 10 wideR := ⟨by decide, by decide, by rw [wideR_len]; decide, fun r h => rowsI_ok (k := 2) (List.mem_of_mem_take h), (rowsI_up 2 10).sublist (List.take_sublist _ _)⟩
theorem wide_tup : cs__law_tuples [.val (.int 2), .val (.int 10)] = .ok (.val (.list ((rowsI 2 10).map rwD))) [.val (.int 2), .val (.int 10)] := sp_law_tuplesN (k := 2) (n := 10) (by decide) (by decide) (by decide) (by decide) (by decide)
theorem cut_548 (l : List D) (h : 548 ≤ l.length) : cutD l none (some 548) = l.take 548 := by
  unfold cutD
  have e1 : HT.sIx l.length 0 none = 0 := rfl
  have e2 : HT.sIx l.length l.length (some 548) = min 548 l.length := by simp [HT.sIx]
  rw [e1, e2, List.drop_zero, Nat.sub_zero, Nat.min_eq_left h]
theorem pow_wide : cs_power_of [.val (.int 548), .val (.int 2)] = .ok (.val (.int 300001)) [.val (.int 548), .val (.int 2)] := by kernel_rfl
def andD : D := opD 2 2 [0, 0, 0, 1]
theorem and_ok : OpOk 2 (opD 2 2 [0, 0, 0, 1]) := ⟨2, [0, 0, 0, 1], rfl, by decide, by decide⟩
theorem fb_big {k n m q : Int} {t : List Int} {ws : List D} (z2 : cs_power_of [.val (.int ws.length), .val (.int n)] = .ok (.val (.int q)) [.val (.int ws.length), .val (.int n)]) (hq : 300000 < q) :
    cs_first_broken [.val (opD k n t), .val (.tuple [.int k, .int m, .tuple ws])] = .ex ⟨"TooLarge", none⟩ [.val (opD k n t), .val (.tuple [.int k, .int m, .tuple ws])] := by
  unfold cs_first_broken
  rw [first_broken_eq]
  unfold first_broken_S1 first_broken_S2
  generalize first_broken_S3 = X3
  generalize first_broken_S4 = X4
  generalize first_broken_S5 = X5
  unfold opD
  walk_at "evh"
theorem br_big {o r : D} {c : Str} (z1 : cs_check_asked [.val o, .val r] = .ok (.val .none) [.val o, .val r]) (z3 : cs_first_broken [.val o, .val r] = .ex ⟨c, none⟩ [.val o, .val r]) : cs_broken_rows [.val o, .val r] = .ex ⟨c, none⟩ [.val o, .val r] := by
  unfold cs_broken_rows b_broken_rows
  walk_at "evh"
theorem wide_pow : cs_power_of [.val (.int (wideR.map rwD).length), .val (.int 2)] = .ok (.val (.int 300001)) [.val (.int (wideR.map rwD).length), .val (.int 2)] := by
  rw [List.length_map, wideR_len]; exact pow_wide
theorem wide_large : cs_broken_rows [.val andD, .val (relD 2 10 wideR)] = .ex ⟨"TooLarge", none⟩ [.val andD, .val (relD 2 10 wideR)] :=
  br_big (sp_check_asked and_ok wide_rl) (fb_big (k := 2) (n := 2) (m := 10) (t := [0, 0, 0, 1]) (ws := wideR.map rwD) wide_pow (by decide))
end
section
/-! ### the law: its end -/
theorem ask_all {o r x : D} {c z : Str} (hk : kindOf c = some z) (hx : cs_check_asked [.val o, .val r] = .ex ⟨c, none⟩ [.val o, .val r]) (w : Int) (hw : w = 0 ∨ w = 1 ∨ w = 2) : cs__law_asked [.val (.int w), .val o, .val r, .val x] = .ok (.val (.str z)) [.val (.int w), .val o, .val r, .val x] := by
  rcases hw with rfl | rfl | rfl
  · exact ask_bad0 hk (br_bad hx)
  · exact ask_bad1 hk (br_bad hx)
  · exact ask_bad2 hk hx
def tl9 : List D := List.replicate 3 (.str "!operation") ++ (List.replicate 3 (.str "!relation") ++ List.replicate 3 (.str "!number"))
def tl11 : List D := tl9 ++ List.replicate 2 (.str "!large")
section
variable (a0 a1 a2 a3 a4 a5 a6 a7 a8 a9 a10 a11 a12 a13 a14 a15 a16 a17 a18 : SV)
theorem S19_ok (k : Int) (l : List Int) : ∃ bad ∈ wrongD k, law_S19 [a0, .own (.lst (dr l)), a2, .val (.int k), a4, a5, a6, a7, a8, a9, a10, a11, a12, a13, .own (.lst (wrongD k)), a15, a16, a17, a18, .un, .un, .un] = .nx [a0, .own (.lst (dr l.tail)), a2, .val (.int k), a4, a5, a6, a7, a8, a9, a10, a11, a12, a13, .val (.list (wrongD k)), .val bad, .val (relD (5 - k) 1 [[0]]), a17, a18, .un, .un, .un] := by
  obtain ⟨x, hx, z⟩ := sp_pick l (xs := wrongD k) (by simp [wrongD])
  refine ⟨x, hx, ?_⟩
  clear hx
  generalize wrongD k = ws at *
  unfold law_S19 relD rwD
  walk_at "evh"
theorem S20_ok {k n : Int} {t : List Int} {bad : D} (hk : k = 2 ∨ k = 3) (ho : OpOk k (opD k n t)) (hb : bad ∈ wrongD k) (h20 : True) : law_S20 [a0, a1, a2, .val (.int k), a4, a5, a6, .val (opD k n t), a8, a9, a10, a11, a12, a13, a14, .val bad, .val (relD (5 - k) 1 [[0]]), a17, a18, .un, .un, .un] = .nx [a0, a1, a2, .val (.int k), a4, a5, a6, .val (opD k n t), a8, a9, a10, a11, a12, a13, a14, .val bad, .val (relD (5 - k) 1 [[0]]), .own (.lst tl9), a18, .un, .un, .un] := by
  have y1 := fun w hw => ask_all (x := .tuple []) kNO (ask_op (r := bad) (op9_not hk)) w hw
  have co := sp_check_operation ho
  have y2 := fun w hw => ask_all (x := .tuple []) kNR (ask_rel co (wrong_not hk bad hb)) w hw
  have cr := sp_check_relation (rl_odd hk)
  have y3 := fun w hw => ask_all (x := .tuple []) kBN (ask_num co cr (one_k_not hk)) w hw
  have m9 := op9_mul hk
  have cr := cr
  unfold op9 at y1
  generalize List.replicate k.toNat (PyData.int 9) = r9 at *
  clear co cr hb ho hk
  generalize (relD (5 - k) 1 [[0]]) = odd at *
  generalize opD k n t = o at *
  have u0 := y1 0 (.inl rfl)
  have u1 := y1 1 (.inr (.inl rfl))
  have u2 := y1 2 (.inr (.inr rfl))
  have v0 := y2 0 (.inl rfl)
  have v1 := y2 1 (.inr (.inl rfl))
  have v2 := y2 2 (.inr (.inr rfl))
  have w0 := y3 0 (.inl rfl)
  have w1 := y3 1 (.inr (.inl rfl))
  have w2 := y3 2 (.inr (.inr rfl))
  clear y1 y2 y3
  have c1 : compLoop [20] (.one 20) (fun s => .ok true s) law_S20_C1 (rangeD 0 3) [a0, a1, a2, .val (.int k), a4, a5, a6, .val o, a8, a9, a10, a11, a12, a13, a14, .val bad, .val odd, a17, a18, .un, .un, .un] = .ok (List.replicate 3 (.str "!operation")) [a0, a1, a2, .val (.int k), a4, a5, a6, .val o, a8, a9, a10, a11, a12, a13, a14, .val bad, .val odd, a17, a18, .un, .un, .un] := by
    clear v0 v1 v2 w0 w1 w2
    show compLoop _ _ _ _ [.int 0, .int 1, .int 2] _ = _
    simp only [compLoop]
    unfold law_S20_C1
    walk_at "evl"
  have c2 : compLoop [20] (.one 20) (fun s => .ok true s) law_S20_C2 (rangeD 0 3) [a0, a1, a2, .val (.int k), a4, a5, a6, .val o, a8, a9, a10, a11, a12, a13, a14, .val bad, .val odd, a17, a18, .un, .un, .un] = .ok (List.replicate 3 (.str "!relation")) [a0, a1, a2, .val (.int k), a4, a5, a6, .val o, a8, a9, a10, a11, a12, a13, a14, .val bad, .val odd, a17, a18, .un, .un, .un] := by
    clear u0 u1 u2 w0 w1 w2 m9 c1
    show compLoop _ _ _ _ [.int 0, .int 1, .int 2] _ = _
    simp only [compLoop]
    unfold law_S20_C2
    walk_at "evh"
  have c3 : compLoop [20] (.one 20) (fun s => .ok true s) law_S20_C3 (rangeD 0 3) [a0, a1, a2, .val (.int k), a4, a5, a6, .val o, a8, a9, a10, a11, a12, a13, a14, .val bad, .val odd, a17, a18, .un, .un, .un] = .ok (List.replicate 3 (.str "!number")) [a0, a1, a2, .val (.int k), a4, a5, a6, .val o, a8, a9, a10, a11, a12, a13, a14, .val bad, .val odd, a17, a18, .un, .un, .un] := by
    clear u0 u1 u2 v0 v1 v2 m9 c1 c2
    show compLoop _ _ _ _ [.int 0, .int 1, .int 2] _ = _
    simp only [compLoop]
    unfold law_S20_C3
    walk_at "evh"
  have a1 : pAdd (.list (List.replicate 3 (.str "!operation"))) (.list (List.replicate 3 (.str "!relation"))) = some (.own (.lst (List.replicate 3 (.str "!operation") ++ List.replicate 3 (.str "!relation")))) := by kernel_rfl
  have a2 : pAdd (.list (List.replicate 3 (.str "!operation") ++ List.replicate 3 (.str "!relation"))) (.list (List.replicate 3 (.str "!number"))) = some (.own (.lst tl9)) := by kernel_rfl
  clear u0 u1 u2 v0 v1 v2 w0 w1 w2 m9
  generalize tl9 = x9 at *
  generalize List.replicate 3 (PyData.str "!operation") ++ List.replicate 3 (PyData.str "!relation") = x6 at *
  generalize List.replicate 3 (PyData.str "!operation") = x1 at *
  generalize List.replicate 3 (PyData.str "!relation") = x2 at *
  generalize List.replicate 3 (PyData.str "!number") = x3 at *
  unfold law_S20
  generalize law_S20_C1 = L1 at *
  generalize law_S20_C2 = L2 at *
  generalize law_S20_C3 = L3 at *
  walk_at "evl"
theorem S21_h {rs ts : List D} {f : Cs} {u v w : Int} (z : f [.val (.int u), .val (.int v)] = .ok (.val (.list rs)) [.val (.int u), .val (.int v)]) (c : cutD rs none (some w) = ts) :
    semSet 18 (semTup [.one (semC (.int u)), .one (semC (.int v)), .one (fz (semCallB pTuple [.one (fz (semSlice (fz (semCall f [.one (semC (.int u)), .one (semC (.int v))])) none (some (semC (.int w)))))]))]) [a0, a1, a2, a3, a4, a5, a6, a7, a8, a9, a10, a11, a12, a13, a14, a15, a16, a17, a18, .un, .un, .un] = .nx [a0, a1, a2, a3, a4, a5, a6, a7, a8, a9, a10, a11, a12, a13, a14, a15, a16, a17, .val (.tuple [.int u, .int v, .tuple ts]), .un, .un, .un] := by
  simp! [z, c]
theorem S21_g {rs ts : List D} (z : cs__law_tuples [.val (.int 2), .val (.int 10)] = .ok (.val (.list rs)) [.val (.int 2), .val (.int 10)]) (c : cutD rs none (some 548) = ts) : law_S21 [a0, a1, a2, a3, a4, a5, a6, a7, a8, a9, a10, a11, a12, a13, a14, a15, a16, a17, a18, .un, .un, .un] = .nx [a0, a1, a2, a3, a4, a5, a6, a7, a8, a9, a10, a11, a12, a13, a14, a15, a16, a17, .val (.tuple [.int 2, .int 10, .tuple ts]), .un, .un, .un] :=
  S21_h a0 a1 a2 a3 a4 a5 a6 a7 a8 a9 a10 a11 a12 a13 a14 a15 a16 a17 a18 z c
theorem cut_wide : cutD ((rowsI 2 10).map rwD) none (some 548) = wideR.map rwD := by
  rw [cut_548 _ (by rw [List.length_map, rowsI_len]; decide)]; unfold wideR; rw [List.map_take]
theorem S21_ok : law_S21 [a0, a1, a2, a3, a4, a5, a6, a7, a8, a9, a10, a11, a12, a13, a14, a15, a16, a17, a18, .un, .un, .un] = .nx [a0, a1, a2, a3, a4, a5, a6, a7, a8, a9, a10, a11, a12, a13, a14, a15, a16, a17, .val (relD 2 10 wideR), .un, .un, .un] := S21_g a0 a1 a2 a3 a4 a5 a6 a7 a8 a9 a10 a11 a12 a13 a14 a15 a16 a17 a18 wide_tup cut_wide
theorem S22_g {r : D} (u0 : cs__law_asked [.val (.int 0), .val (.tuple [.int 2, .int 2, .tuple [.int 0, .int 0, .int 0, .int 1]]), .val r, .val (.tuple [])] = .ok (.val (.str "!large")) [.val (.int 0), .val (.tuple [.int 2, .int 2, .tuple [.int 0, .int 0, .int 0, .int 1]]), .val r, .val (.tuple [])])
    (u1 : cs__law_asked [.val (.int 1), .val (.tuple [.int 2, .int 2, .tuple [.int 0, .int 0, .int 0, .int 1]]), .val r, .val (.tuple [])] = .ok (.val (.str "!large")) [.val (.int 1), .val (.tuple [.int 2, .int 2, .tuple [.int 0, .int 0, .int 0, .int 1]]), .val r, .val (.tuple [])]) : law_S22 [a0, a1, a2, a3, a4, a5, a6, a7, a8, a9, a10, a11, a12, a13, a14, a15, a16, .own (.lst tl9), .val r, .un, .un, .un] = .nx [a0, a1, a2, a3, a4, a5, a6, a7, a8, a9, a10, a11, a12, a13, a14, a15, a16, .own (.lst tl11), .val r, .un, .un, .un] := by
  have c1 : compLoop [20] (.one 20) (fun s => .ok true s) law_S22_C1 (rangeD 0 2) [a0, a1, a2, a3, a4, a5, a6, a7, a8, a9, a10, a11, a12, a13, a14, a15, a16, .own (.lst tl9), .val r, .un, .un, .un] = .ok (List.replicate 2 (.str "!large")) [a0, a1, a2, a3, a4, a5, a6, a7, a8, a9, a10, a11, a12, a13, a14, a15, a16, .own (.lst tl9), .val r, .un, .un, .un] := by
    generalize tl9 = x9 at *
    show compLoop _ _ _ _ [.int 0, .int 1] _ = _
    simp only [compLoop]
    unfold law_S22_C1
    walk_at "evh"
  have a1 : pAdd (.list tl9) (.list (List.replicate 2 (.str "!large"))) = some (.own (.lst tl11)) := by kernel_rfl
  clear u0 u1
  generalize tl9 = x9 at *
  generalize tl11 = x11 at *
  generalize List.replicate 2 (PyData.str "!large") = x1 at *
  unfold law_S22
  generalize law_S22_C1 = L1 at *
  walk_at "evl"
theorem S22_ok : law_S22 [a0, a1, a2, a3, a4, a5, a6, a7, a8, a9, a10, a11, a12, a13, a14, a15, a16, .own (.lst tl9), .val (relD 2 10 wideR), .un, .un, .un] = .nx [a0, a1, a2, a3, a4, a5, a6, a7, a8, a9, a10, a11, a12, a13, a14, a15, a16, .own (.lst tl11), .val (relD 2 10 wideR), .un, .un, .un] :=
  S22_g a0 a1 a2 a3 a4 a5 a6 a7 a8 a9 a10 a11 a12 a13 a14 a15 a16 (r := relD 2 10 wideR) (ask_bad0 (x := .tuple []) kTL wide_large) (ask_bad1 (x := .tuple []) kTL wide_large)
theorem S23_ok : law_S23 [a0, a1, a2, a3, a4, a5, a6, a7, a8, a9, a10, a11, a12, a13, a14, a15, a16, .own (.lst tl11), a18, .un, .un, .un] = .rt (.val (.bool true)) [a0, a1, a2, a3, a4, a5, a6, a7, a8, a9, a10, a11, a12, a13, a14, a15, a16, .own (.lst tl11), a18, .un, .un, .un] := by
  have m1 : pMul (.list [.str "!operation"]) (.int 3) = some (.own (.lst (List.replicate 3 (.str "!operation")))) := by kernel_rfl
  have m2 : pMul (.list [.str "!relation"]) (.int 3) = some (.own (.lst (List.replicate 3 (.str "!relation")))) := by kernel_rfl
  have m3 : pMul (.list [.str "!number"]) (.int 3) = some (.own (.lst (List.replicate 3 (.str "!number")))) := by kernel_rfl
  have m4 : pMul (.list [.str "!large"]) (.int 2) = some (.own (.lst (List.replicate 2 (.str "!large")))) := by kernel_rfl
  have a1 : pAdd (.list (List.replicate 3 (.str "!operation"))) (.list (List.replicate 3 (.str "!relation"))) = some (.own (.lst (List.replicate 3 (.str "!operation") ++ List.replicate 3 (.str "!relation")))) := by kernel_rfl
  have a2 : pAdd (.list (List.replicate 3 (.str "!operation") ++ List.replicate 3 (.str "!relation"))) (.list (List.replicate 3 (.str "!number"))) = some (.own (.lst tl9)) := by kernel_rfl
  have a3 : pAdd (.list tl9) (.list (List.replicate 2 (.str "!large"))) = some (.own (.lst tl11)) := by kernel_rfl
  have q : pEq (.list tl11) (.list tl11) = some (.val (.bool true)) := by kernel_rfl
  generalize tl9 = x9 at *
  generalize tl11 = x11 at *
  generalize List.replicate 3 (PyData.str "!operation") ++ List.replicate 3 (PyData.str "!relation") = x6 at *
  generalize List.replicate 3 (PyData.str "!operation") = x1 at *
  generalize List.replicate 3 (PyData.str "!relation") = x2 at *
  generalize List.replicate 3 (PyData.str "!number") = x3 at *
  generalize List.replicate 2 (PyData.str "!large") = x4 at *
  have e1 : pEq (.list x11) (.list x11) = some (.val (.bool true)) := q
  unfold law_S23
  simp only [semRet, semBin, semNh, semLst, semC, fz]
  walk_at "evl"
end
end
section
theorem thenS_bind {r : SRe} {s : Sg} {f : SemS} (h : r = .nx s) : thenS r f = f s := by rw [h]; rfl
theorem thenS_assoc (r : SRe) (f g : SemS) : thenS (thenS r f) g = thenS r (fun s => thenS (f s) g) := by cases r <;> rfl
theorem seqS_fun (f g : SemS) : semSeqS f g = fun s => thenS (f s) g := funext fun s => seqS_eq f g s
def Hold (f : SemS) (s : Sg) : Prop := ∃ s', f s = .rt (.val (.bool true)) s'
section
variable {f rest : SemS} {s : Sg}
theorem hold_seq {s' : Sg} (e : f s = .nx s') (h : Hold rest s') : Hold (semSeqS f rest) s := by
  obtain ⟨z, hz⟩ := h
  exact ⟨z, by rw [seqS_eq, e, thenS_nx, hz]⟩
theorem hold_two {g : SemS} {s' : Sg} (e : thenS (f s) g = .nx s') (h : Hold rest s') : Hold (semSeqS f (semSeqS g rest)) s := by
  obtain ⟨z, hz⟩ := h
  refine ⟨z, ?_⟩
  rw [seqS_eq, seqS_fun g, ← thenS_assoc, e, thenS_nx, hz]
theorem hold_rt {z : Sg} (e : f s = .rt (.val (.bool true)) z) : Hold (semSeqS f rest) s := ⟨z, by rw [seqS_eq, e, thenS_rt]⟩
theorem hold_ex {α : Type} {P : α → Prop} {g : α → Sg} (h : ∃ x, P x ∧ f s = .nx (g x)) (k : ∀ x, P x → Hold rest (g x)) : Hold (semSeqS f rest) s := by
  obtain ⟨x, p, e⟩ := h
  exact hold_seq e (k x p)
theorem hold_ex2' {α β : Type} {g : α → β → Sg} (h : ∃ x y, f s = .nx (g x y)) (k : ∀ x y, Hold rest (g x y)) : Hold (semSeqS f rest) s := by
  obtain ⟨x, y, e⟩ := h
  exact hold_seq e (k x y)
theorem hold_ex21 {α β : Type} {P : α → β → Prop} {g : α → β → Sg} (h : ∃ x y, P x y ∧ f s = .nx (g x y)) (k : ∀ x y, P x y → Hold rest (g x y)) : Hold (semSeqS f rest) s := by
  obtain ⟨x, y, p, e⟩ := h
  exact hold_seq e (k x y p)
theorem hold_ex22 {α β : Type} {P P2 : α → β → Prop} {g : α → β → Sg} (h : ∃ x y, P x y ∧ P2 x y ∧ f s = .nx (g x y)) (k : ∀ x y, P x y → P2 x y → Hold rest (g x y)) : Hold (semSeqS f rest) s := by
  obtain ⟨x, y, p, p2, e⟩ := h
  exact hold_seq e (k x y p p2)
theorem hold_ex31 {α β γ : Type} {P : α → β → γ → Prop} {g : α → β → γ → Sg} (h : ∃ x y z, P x y z ∧ f s = .nx (g x y z)) (k : ∀ x y z, P x y z → Hold rest (g x y z)) : Hold (semSeqS f rest) s := by
  obtain ⟨x, y, z, p, e⟩ := h
  exact hold_seq e (k x y z p)
theorem hold_ex43 {α β γ δ : Type} {P P2 P3 : α → β → γ → δ → Prop} {g : α → β → γ → δ → Sg} (h : ∃ x y z w, P x y z w ∧ P2 x y z w ∧ P3 x y z w ∧ f s = .nx (g x y z w)) (k : ∀ x y z w, P x y z w → P2 x y z w → P3 x y z w → Hold rest (g x y z w)) : Hold (semSeqS f rest) s := by
  obtain ⟨x, y, z, w, p, p2, p3, e⟩ := h
  exact hold_seq e (k x y z w p p2 p3)
end
theorem L (ns : List Int) (h : ns.length ≤ 63) : ∃ ps, cs_law [.val (.list (ns.map PyData.int))] = .ok (.val (.bool true)) ps := by
  generalize hsc : SV.val (.list (ns.map PyData.int)) = sc
  obtain ⟨l1, e1⟩ := law_start ns h
  rw [hsc] at e1
  have e1 : thenS (law_S1 [sc, .un, .un, .un, .un, .un, .un, .un, .un, .un, .un, .un, .un, .un, .un, .un, .un, .un, .un, .un, .un, .un]) law_S2 = .nx [sc, .own (.lst (dr l1)), .un, .un, .un, .un, .un, .un, .un, .un, .un, .un, .un, .un, .un, .un, .un, .un, .un, .un, .un, .un] := e1
  suffices hs : ∃ s, b_law [sc, .un, .un, .un, .un, .un, .un, .un, .un, .un, .un, .un, .un, .un, .un, .un, .un, .un, .un, .un, .un, .un] = .rt (.val (.bool true)) s by
    obtain ⟨s, hs⟩ := hs
    refine ⟨outPs [0] 1 s, ?_⟩
    unfold cs_law
    rw [mkCs_eq]
    show outC [0] 1 (b_law [sc, .un, .un, .un, .un, .un, .un, .un, .un, .un, .un, .un, .un, .un, .un, .un, .un, .un, .un, .un, .un, .un]) = _
    rw [hs]
    rfl
  show Hold b_law _
  rw [law_eq]
  refine hold_two e1 ?_
  refine hold_seq (S3_ok ..) ?_
  refine hold_seq (S4_ok ..) ?_
  refine hold_ex (S5_ok (l := l1) ..) ?_
  intro k hk
  refine hold_ex (S6_ok (l := l1.tail) ..) ?_
  intro m hm
  refine hold_ex (S7_ok (l := l1.tail.tail) ..) ?_
  intro o hoo
  refine hold_ex22 (S8_ok (l := l1.tail.tail.tail) (hk := hk) (hm := hm) (ho := hoo) ..) ?_
  intro l8 rows nd hr
  refine hold_ex31 (S9_ok (hk := hk) (l := l8) ..) ?_
  intro l9 n t ho
  refine hold_ex43 (S10_ok (hk := hk) (hm := hm) (ho := ho) (nd := nd) (hr := hr) (l := l9) ..) ?_
  intro l10 rows' c6 c8 h6 nd' hr'
  have hl := rows27 hk hm hr' nd'
  refine hold_seq (S11_ok (hm := hm) (h6 := h6) (hr := hr') (hl := hl) ..) ?_
  refine hold_ex (S12_ok (hk := hk) (hm := hm) (ho := ho) (h6 := h6) (hr := hr') (nd := nd') ..) ?_
  intro R C
  have m3 : m ≤ 3 := by omega
  refine hold_seq (S13_ok (C := C) ..) ?_
  refine hold_seq (S14_ok (C := C) (hm := m3) ..) ?_
  refine hold_ex2' (S15_ok (C := C) (hm := m3) (l := l10) ..) ?_
  intro l15 s1
  refine hold_ex21 (S16_ok (C := C) ..) ?_
  intro c12 c13 h12
  refine hold_seq (S17_ok ..) ?_
  refine hold_seq (S18_ok (hk := hk) (C := C) (h12 := h12) ..) ?_
  refine hold_ex (S19_ok (l := l15) ..) ?_
  intro bad hb
  refine hold_seq (S20_ok (hk := hk) (ho := ho) (hb := hb) (h20 := trivial) ..) ?_
  refine hold_seq (S21_ok ..) ?_
  refine hold_seq (S22_ok ..) ?_
  exact hold_rt (S23_ok ..)
end
end LW
end
theorem PySem.Challenge.cw_madefrom_k02_relations_that_are_kept_holds : PySem.Challenge.rw_madefrom_k02_relations_that_are_kept.Holds := by
  exact holds_of LW.L
