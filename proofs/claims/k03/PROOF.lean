import PyProof.Rows.All
import Wide.All
import OpenK.AllK
import Wide.FinOn
import HandS.ForMost
import HandS.ForExc
import HandS.CallSlots
import HandS.Iter
import KE.GoesNew
import HandS.Deep
import HandS.IsInst
import HandS.TupAny
import HandS.TupMul
import HandS.Style
import HandS.Strs
import PyProof.SeqIndex
import HandS.SetFor
import HandS.SortInts
import HandS.Wide
import HandS.Defaults
import HandS.HeadHook2
import HandS.HeadHook4
import HandS.Ends
import HandS.Head0
import HandS.Head1
import HandS.Head2
import HandS.HeadEnd
import PyProof.Rows.SortShellAny
import KE.GoesEnum
import KE.KTupSum
import PySem.Challenge.RW_wishrules_k03_whole_books_led
set_option Elab.async false
set_option linter.all false
set_option maxRecDepth 100000
set_option maxHeartbeats 4000000
set_option autoImplicit false
/-! Wr: values with tuples inline, lists and dicts in a numbered heap; what a piece of code does as a function; its soundness over the layer L2. -/
namespace Wr
open PySem PySem.Spec PyProof.Rows L2

inductive Va where
  | non | bl (b : Bool) | int (i : Int) | str (x : Str) | ty (n : String) | gl (n : Nat) | scr | ref (i : Nat) | tup (xs : List Va)

inductive Ob where
  | lst (xs : List Va)
  | dK (kvs : List (Key × Va))
  | dT (kvs : List (List Key × Va))
  | dF (kvs : List (Key × Va))
  | ins (c : Nat) (fs : List (Str × Va))

abbrev Sg := List (Option Va)
abbrev Hs := List Ob
inductive Rs (α : Type) where
  | ok (a : α) (h : Hs) | ex (c : Nat) (h : Hs) | no
inductive RS where
  | nx (s : Sg) (h : Hs) | rt (v : Va) (h : Hs) | bk (s : Sg) (h : Hs) | ct (s : Sg) (h : Hs) | ex (c : Nat) (s : Sg) (h : Hs) | no
abbrev De := Sg → Hs → Rs Va
abbrev Dt := Sg → Hs → Rs Bool
abbrev Da := Sg → Hs → Rs (List Va)
abbrev Ds := Sg → Hs → RS
def Rs.bind {α β : Type} (r : Rs α) (k : α → Hs → Rs β) : Rs β := match r with
  | .ok a h => k a h
  | .ex c h => .ex c h
  | .no => .no

structure Gd where
  K : PySem.W.Frag
  G : Nat → Addr
  sa : Addr
  ns : List Int

def ScrAt (g : Gd) (H : Hp) : Prop :=
  (∃ o, H g.sa = some (.frz o (.lst (g.ns.map V.int)))) ∨
    ∃ (o : Obj) (its : Array Value) (n : Nat), g.K.lookup g.sa = some o ∧ o.cls = .type "list" ∧ o.dict = none ∧ o.data = .seq its n ∧ its.size ≤ sizeLine ∧ Vals (g.ns.map V.int) its.toList

/-- a tuple whose object is known to bear no dict -/
def SqN (K : PySem.W.Frag) (H : Hp) (a : Addr) (xs : List V) : Prop :=
  (∃ o : Obj, H a = some (.frz o (.tup xs)) ∧ o.dict = none) ∨
    ∃ (o : Obj) (its : Array Value) (n : Nat), K.lookup a = some o ∧ o.cls = .type "tuple" ∧ o.dict = none ∧ o.data = .seq its n ∧ its.size ≤ sizeLine ∧ Vals xs its.toList
theorem SqN.sqT {K : PySem.W.Frag} {H : Hp} {a : Addr} {xs : List V} (h : SqN K H a xs) : SqT K H a xs := by
  rcases h with ⟨o, h, _⟩ | ⟨o, its, n, h1, h2, _, h3, h4, h5⟩
  · exact .inl (.inr ⟨o, h⟩)
  · exact .inr ⟨o, its, n, h1, h2, h3, h4, h5⟩
/-! a dict whose keys are tuples of ints, the tuples known to bear no dict: what its own object is -/
def DTo (a : Addr) (xs : List (List Key × Addr × Value)) : HO := .ext fun h => ∃ o es ep, h.get? a = some o ∧ o.ExactDict ∧ o.data = .dict es ep ∧ ∀ (P : Program) (w : World), es.toList = xs.map (entryOfKey (tupleKind (mixKind P w)))
abbrev KTn (K : PySem.W.Frag) (H : Hp) : List (List Key × V) → List (List Key × Addr × Value) → Prop := Paired fun p q => p.1 = q.1 ∧ SqN K H q.2.1 (p.1.map kV) ∧ RelV p.2 q.2.2
def DtX (K : PySem.W.Frag) (H : Hp) (a : Addr) (ws : List (List Key × V)) : Prop :=
  (a == sysModules) = false ∧ ∃ xs, H a = some (DTo a xs) ∧ KTn K H ws xs ∧ (xs.map (·.1)).Nodup ∧ ∀ q ∈ xs, ∃ is : List Int, q.1 = is.map Sum.inl
theorem DtX.keep {K : PySem.W.Frag} {H H' : Hp} {a : Addr} {ws : List (List Key × V)} (h : DtX K H a ws) (e : ∀ o, H a = some o → H' a = some o) (t : ∀ b vs, SqN K H b vs → SqN K H' b vs) : DtX K H' a ws := by
  obtain ⟨h0, xs, h1, h2, h3⟩ := h
  exact ⟨h0, xs, e _ h1, Paired.mapP h2 fun _ _ z => ⟨z.1, t _ _ z.2.1, z.2.2⟩, h3⟩
section
variable (g : Gd) (ρ : List Addr) (H : Hp)
mutual
def Rv : Va → V → Prop
  | .non, v => v = .non
  | .bl b, v => v = .bl b
  | .int i, v => v = .int i
  | .str x, v => v = .str x
  | .ty n, v => v = .ty n
  | .gl n, v => v = .ref (g.G n)
  | .scr, v => v = .ref g.sa ∧ ScrAt g H
  | .ref i, v => ∃ a, ρ[i]? = some a ∧ v = .ref a
  | .tup xs, v => ∃ a vs, v = .ref a ∧ SqN g.K H a vs ∧ Rvs xs vs
def Rvs : List Va → List V → Prop
  | [], vs => vs = []
  | x :: xs, vs => ∃ v r, vs = v :: r ∧ Rv x v ∧ Rvs xs r
end
def Rkv {κ : Type} : List (κ × Va) → List (κ × V) → Prop
  | [], vs => vs = []
  | (k, x) :: xs, vs => ∃ v r, vs = (k, v) :: r ∧ Rv g ρ H x v ∧ Rkv xs r
def Ro (a : Addr) : Ob → Prop
  | .lst xs => ∃ vs, H a = some (.lst vs) ∧ Rvs g ρ H xs vs
  | .dK kvs => ∃ ws, H a = some (.dK ws) ∧ Rkv g ρ H kvs ws
  | .dT kvs => ∃ ws, DtX g.K H a ws ∧ Rkv g ρ H kvs ws
  | .ins c fs => ∃ dx ws, H a = some (.ins (g.G c) dx ws) ∧ Rkv g ρ H fs ws
  | .dF kvs => ∃ o ws, H a = some (.frz o (.dK ws)) ∧ Rkv g ρ H kvs ws
structure Rh (hp : Hs) : Prop where
  len : ρ.length = hp.length
  nd : ρ.Nodup
  obj : ∀ (i : Nat) (a : Addr) (o : Ob), ρ[i]? = some a → hp[i]? = some o → Ro g ρ H a o
structure Rsl (s : Sg) (σ : L2.St) : Prop where
  len : s.length = σ.length
  at_ : ∀ (i : Nat) (x : Va), s[i]? = some (some x) → ∃ v, σ[i]? = some (some v) ∧ Rv g ρ H x v
end
structure Sp1 (ρ : List Addr) (H : Hp) (ρ' : List Addr) (H' : Hp) : Prop where
  pre : ρ <+: ρ'
  new : ∀ b, b ∈ ρ' → b ∈ ρ ∨ H b = none
  keep : ∀ b o, H b = some o → b ∉ ρ → H' b = some o
  frz : ∀ b o u, H b = some (.frz o u) → H' b = some (.frz o u)
theorem Sp1.refl (ρ : List Addr) (H : Hp) : Sp1 ρ H ρ H := ⟨List.prefix_refl _, fun _ h => .inl h, fun _ _ h _ => h, fun _ _ _ h => h⟩
theorem Sp1.trans {ρ ρ1 ρ2 : List Addr} {H H1 H2 : Hp} (a : Sp1 ρ H ρ1 H1) (b : Sp1 ρ1 H1 ρ2 H2) : Sp1 ρ H ρ2 H2 where
  pre := a.pre.trans b.pre
  new := fun c hc => by
    rcases b.new c hc with h | h
    · exact a.new c h
    · by_cases hr : c ∈ ρ
      · exact .inl hr
      · right
        cases q : H c with
        | none => rfl
        | some o => rw [a.keep c o q hr] at h; cases h
  keep := fun c o hc hn => by
    refine b.keep c o (a.keep c o hc hn) fun h => ?_
    rcases a.new c h with q | q
    · exact hn q
    · rw [q] at hc; cases hc
  frz := fun c o u hc => b.frz c o u (a.frz c o u hc)

theorem nd_ix {N : List Addr} (hN : N.Nodup) {i j : Nat} {x : Addr} (a : N[i]? = some x) (b : N[j]? = some x) : i = j := by
  obtain ⟨h1, e1⟩ := List.getElem?_eq_some_iff.mp a
  obtain ⟨h2, e2⟩ := List.getElem?_eq_some_iff.mp b
  exact (List.getElem_inj hN).mp (e1.trans e2.symm)
section
variable {g : Gd} {ρ ρ' : List Addr} {H H' : Hp} {hp : Hs}
theorem Rh.there (R : Rh g ρ H hp) {a : Addr} (h : a ∈ ρ) : ∃ (i : Nat) (o : Ob), ρ[i]? = some a ∧ hp[i]? = some o ∧ Ro g ρ H a o := by
  obtain ⟨i, hi, e⟩ := List.getElem_of_mem h
  have h1 : ρ[i]? = some a := by rw [List.getElem?_eq_getElem hi, e]
  have hl : i < hp.length := by rw [← R.len]; exact hi
  exact ⟨i, hp[i], h1, List.getElem?_eq_getElem hl, R.obj _ _ _ h1 (List.getElem?_eq_getElem hl)⟩
/-- what may be ours -/
def Own : Option HO → Prop
  | some (.lst _) => True
  | some (.dK _) => True
  | some (.dT _) => True
  | some (.ins _ _ _) => True
  | some (.frz _ (.dK _)) => True
  | some (.ext _) => True
  | _ => False
theorem Ro.mut {a : Addr} {o : Ob} (h : Ro g ρ H a o) : Own (H a) := by
  cases o with
  | lst xs => obtain ⟨vs, e, _⟩ := h; rw [e]; trivial
  | dK kvs => obtain ⟨vs, e, _⟩ := h; rw [e]; trivial
  | dT kvs => obtain ⟨vs, ⟨_, _, e, _⟩, _⟩ := h; rw [e]; trivial
  | ins c fs => obtain ⟨dx, vs, e, _⟩ := h; rw [e]; trivial
  | dF kvs => obtain ⟨dx, vs, e, _⟩ := h; rw [e]; trivial
theorem Rh.mut (R : Rh g ρ H hp) {a : Addr} (h : a ∈ ρ) : Own (H a) := by
  obtain ⟨_, _, _, _, r⟩ := R.there h
  exact r.mut
theorem Rh.not_in (R : Rh g ρ H hp) {a : Addr} {o : HO} (h : H a = some o) (hm : ¬ Own (some o)) : a ∉ ρ := fun z => hm (h ▸ R.mut z)
theorem SqN.step (R : Rh g ρ H hp) (S : Sp1 ρ H ρ' H') {a : Addr} {vs : List V} (h : SqN g.K H a vs) : SqN g.K H' a vs := by
  rcases h with ⟨o, h, d⟩ | h
  · exact .inl ⟨o, S.keep _ _ h (R.not_in h fun z => z), d⟩
  · exact .inr h
theorem ScrAt.step (R : Rh g ρ H hp) (S : Sp1 ρ H ρ' H') (h : ScrAt g H) : ScrAt g H' := by
  rcases h with ⟨o, h⟩ | h
  · exact .inl ⟨o, S.keep _ _ h (R.not_in h fun z => z)⟩
  · exact .inr h
theorem pre_get {α : Type} {a b : List α} (h : a <+: b) {i : Nat} {x : α} (e : a[i]? = some x) : b[i]? = some x := by
  obtain ⟨c, rfl⟩ := h
  have hi : i < a.length := (List.getElem?_eq_some_iff.mp e).1
  rw [List.getElem?_append_left hi]; exact e
mutual
theorem Rv.step (R : Rh g ρ H hp) (S : Sp1 ρ H ρ' H') : ∀ (x : Va) (v : V), Rv g ρ H x v → Rv g ρ' H' x v
  | .non, _, h => by simpa only [Rv] using h
  | .bl _, _, h => by simpa only [Rv] using h
  | .int _, _, h => by simpa only [Rv] using h
  | .str _, _, h => by simpa only [Rv] using h
  | .ty _, _, h => by simpa only [Rv] using h
  | .gl _, _, h => by simpa only [Rv] using h
  | .scr, _, h => by
    simp only [Rv] at h ⊢
    exact ⟨h.1, h.2.step R S⟩
  | .ref i, _, h => by
    simp only [Rv] at h ⊢
    obtain ⟨a, e, h⟩ := h
    exact ⟨a, pre_get S.pre e, h⟩
  | .tup xs, _, h => by
    simp only [Rv] at h ⊢
    obtain ⟨a, vs, e, q, r⟩ := h
    exact ⟨a, vs, e, SqN.step R S q, Rvs.step R S xs vs r⟩
theorem Rvs.step (R : Rh g ρ H hp) (S : Sp1 ρ H ρ' H') : ∀ (x : List Va) (v : List V), Rvs g ρ H x v → Rvs g ρ' H' x v
  | [], _, h => by simpa only [Rvs] using h
  | x :: xs, _, h => by
    simp only [Rvs] at h ⊢
    obtain ⟨v, r, e, h1, h2⟩ := h
    exact ⟨v, r, e, Rv.step R S x v h1, Rvs.step R S xs r h2⟩
end
theorem Rkv.step {κ : Type} (R : Rh g ρ H hp) (S : Sp1 ρ H ρ' H') : ∀ (x : List (κ × Va)) (v : List (κ × V)), Rkv g ρ H x v → Rkv g ρ' H' x v
  | [], _, h => h
  | (k, x) :: xs, _, h => by
    obtain ⟨v, r, e, h1, h2⟩ := h
    exact ⟨v, r, e, Rv.step R S x v h1, Rkv.step R S xs r h2⟩
theorem Rsl.step (R : Rh g ρ H hp) (S : Sp1 ρ H ρ' H') {s : Sg} {σ : L2.St} (h : Rsl g ρ H s σ) : Rsl g ρ' H' s σ :=
  ⟨h.len, fun i x e => by obtain ⟨v, e1, r⟩ := h.at_ i x e; exact ⟨v, e1, Rv.step R S _ _ r⟩⟩
theorem Rsl.set {s : Sg} {σ : L2.St} (h : Rsl g ρ H s σ) (i : Nat) {x : Va} {v : V} (r : Rv g ρ H x v) : Rsl g ρ H (s.set i (some x)) (σ.set i (some v)) := by
  refine ⟨by simpa using h.len, fun j y e => ?_⟩
  by_cases hj : i = j
  · subst hj
    by_cases hi : i < s.length
    · rw [List.getElem?_set_self hi] at e
      cases e
      exact ⟨v, by rw [List.getElem?_set_self (by rw [← h.len]; exact hi)], r⟩
    · rw [List.getElem?_eq_none (by simpa using hi)] at e; cases e
  · rw [List.getElem?_set_ne hj] at e ⊢
    exact h.at_ j y e
theorem Rsl.forget {s s' : Sg} {σ : L2.St} (h : Rsl g ρ H s σ) (hl : s'.length = s.length) (w : ∀ (i : Nat) x, s'[i]? = some (some x) → s[i]? = some (some x)) : Rsl g ρ H s' σ :=
  ⟨hl.trans h.len, fun i x e => h.at_ i x (w i x e)⟩
theorem Rvs.length : ∀ {xs : List Va} {vs : List V}, Rvs g ρ H xs vs → xs.length = vs.length
  | [], _, h => by simp only [Rvs] at h; subst h; rfl
  | x :: xs, _, h => by
    simp only [Rvs] at h
    obtain ⟨v, r, rfl, _, h2⟩ := h
    simp [Rvs.length h2]
theorem Rvs.get : ∀ {xs : List Va} {vs : List V} {i : Nat} {x : Va}, Rvs g ρ H xs vs → xs[i]? = some x → ∃ v, vs[i]? = some v ∧ Rv g ρ H x v
  | [], _, _, _, _, e => by simp at e
  | y :: xs, _, 0, x, h, e => by
    simp only [Rvs] at h
    obtain ⟨v, r, rfl, h1, h2⟩ := h
    simp at e; subst e
    exact ⟨v, rfl, h1⟩
  | y :: xs, _, i + 1, x, h, e => by
    simp only [Rvs] at h
    obtain ⟨v, r, rfl, h1, h2⟩ := h
    obtain ⟨w, e1, r1⟩ := Rvs.get (i := i) h2 (by simpa using e)
    exact ⟨w, by simpa using e1, r1⟩
theorem Rvs.append : ∀ {xs ys : List Va} {vs ws : List V}, Rvs g ρ H xs vs → Rvs g ρ H ys ws → Rvs g ρ H (xs ++ ys) (vs ++ ws)
  | [], _, _, _, h, h' => by simp only [Rvs] at h; subst h; exact h'
  | x :: xs, ys, _, ws, h, h' => by
    simp only [Rvs] at h
    obtain ⟨v, r, rfl, h1, h2⟩ := h
    simp only [List.cons_append, Rvs]
    exact ⟨v, r ++ ws, rfl, h1, Rvs.append h2 h'⟩
theorem Rvs.nil : Rvs g ρ H [] [] := by simp only [Rvs]
theorem Rvs.cons {x : Va} {v : V} {xs : List Va} {vs : List V} (h : Rv g ρ H x v) (h' : Rvs g ρ H xs vs) : Rvs g ρ H (x :: xs) (v :: vs) := by
  simp only [Rvs]; exact ⟨v, vs, rfl, h, h'⟩
theorem Rvs.cons_inv {x : Va} {v : V} {xs : List Va} {vs : List V} (h : Rvs g ρ H (x :: xs) (v :: vs)) : Rv g ρ H x v ∧ Rvs g ρ H xs vs := by
  simp only [Rvs] at h
  obtain ⟨v', r, e, h1, h2⟩ := h
  cases e
  exact ⟨h1, h2⟩
theorem Rvs.one {x : Va} {v : V} (h : Rv g ρ H x v) : Rvs g ρ H [x] [v] := Rvs.cons h Rvs.nil
theorem Rvs.set : ∀ {xs : List Va} {vs : List V} {x : Va} {v : V} (i : Nat), Rvs g ρ H xs vs → Rv g ρ H x v → Rvs g ρ H (xs.set i x) (vs.set i v)
  | [], _, _, _, _, h, _ => by simp only [Rvs] at h; subst h; simp only [List.set_nil, Rvs]
  | y :: xs, _, x, v, 0, h, hv => by
    simp only [Rvs] at h
    obtain ⟨w, r, rfl, h1, h2⟩ := h
    exact Rvs.cons hv h2
  | y :: xs, _, x, v, i + 1, h, hv => by
    simp only [Rvs] at h
    obtain ⟨w, r, rfl, h1, h2⟩ := h
    exact Rvs.cons h1 (Rvs.set i h2 hv)
theorem Rvs.of_get : ∀ {xs : List Va} {vs : List V}, xs.length = vs.length → (∀ (i : Nat) (x : Va) (v : V), xs[i]? = some x → vs[i]? = some v → Rv g ρ H x v) → Rvs g ρ H xs vs
  | [], [], _, _ => Rvs.nil
  | [], _ :: _, e, _ => by simp at e
  | _ :: _, [], e, _ => by simp at e
  | x :: xs, v :: vs, e, h => Rvs.cons (h 0 x v rfl rfl) (Rvs.of_get (by simpa using e) fun i a b h1 h2 => h (i + 1) a b (by simpa using h1) (by simpa using h2))
theorem Rvs.take {xs : List Va} {vs : List V} (n : Nat) (h : Rvs g ρ H xs vs) : Rvs g ρ H (xs.take n) (vs.take n) := by
  refine Rvs.of_get (by simp [h.length]) fun i x v h1 h2 => ?_
  have a : i < n ∧ xs[i]? = some x := by
    rw [List.getElem?_take] at h1; split at h1 <;> simp_all
  have b : vs[i]? = some v := by
    rw [List.getElem?_take] at h2; split at h2 <;> simp_all
  obtain ⟨w, e, r⟩ := h.get a.2
  rw [b] at e; cases e; exact r
theorem Rvs.drop {xs : List Va} {vs : List V} (n : Nat) (h : Rvs g ρ H xs vs) : Rvs g ρ H (xs.drop n) (vs.drop n) := by
  refine Rvs.of_get (by simp [h.length]) fun i x v h1 h2 => ?_
  rw [List.getElem?_drop] at h1 h2
  obtain ⟨w, e, r⟩ := h.get h1
  rw [h2] at e; cases e; exact r
theorem Rvs.reverse {xs : List Va} {vs : List V} (h : Rvs g ρ H xs vs) : Rvs g ρ H xs.reverse vs.reverse := by
  have hl := h.length
  refine Rvs.of_get (by simp [hl]) fun i x v h1 h2 => ?_
  have hi : i < xs.length := by have := (List.getElem?_eq_some_iff.mp h1).1; simpa using this
  rw [List.getElem?_reverse hi] at h1
  rw [List.getElem?_reverse (by omega)] at h2
  obtain ⟨w, e, r⟩ := h.get h1
  rw [hl] at e
  rw [h2] at e; cases e; exact r
theorem Rvs.none_of {xs : List Va} {vs : List V} {i : Nat} (h : Rvs g ρ H xs vs) (e : xs[i]? = none) : vs[i]? = none := by
  have := h.length
  rw [List.getElem?_eq_none_iff] at e ⊢
  omega

/-! ### new and changed objects -/
theorem Rh.new (R : Rh g ρ H hp) {p : Addr} {u : HO} {o : Ob} (hn : H p = none) (ho : ∀ (S : Sp1 ρ H (ρ ++ [p]) (upd H p u)), Ro g (ρ ++ [p]) (upd H p u) p o) :
    Sp1 ρ H (ρ ++ [p]) (upd H p u) ∧ Rh g (ρ ++ [p]) (upd H p u) (hp ++ [o]) := by
  have S : Sp1 ρ H (ρ ++ [p]) (upd H p u) := by
    refine ⟨List.prefix_append _ _, fun b hb => ?_, fun b x hb _ => ?_, fun b x u hb => ?_⟩
    · rcases List.mem_append.mp hb with h | h
      · exact .inl h
      · obtain rfl := List.mem_singleton.mp h; exact .inr hn
    · rw [upd_ne (ne_of_none hb hn)]; exact hb
    · rw [upd_ne (ne_of_none hb hn)]; exact hb
  have hp' : p ∉ ρ := fun h => by have := R.mut h; rw [hn] at this; exact this
  refine ⟨S, ⟨by simp [R.len], ?_, fun i a x h1 h2 => ?_⟩⟩
  · rw [List.nodup_append]
    refine ⟨R.nd, by simp, fun a ha b hb => ?_⟩
    obtain rfl := List.mem_singleton.mp hb
    intro e; subst e; exact hp' ha
  · by_cases hi : i < ρ.length
    · rw [List.getElem?_append_left hi] at h1
      rw [List.getElem?_append_left (by rw [← R.len]; exact hi)] at h2
      have q := R.obj i a x h1 h2
      have hne : a ≠ p := fun e => hp' (e ▸ List.mem_of_getElem? h1)
      cases x with
      | lst xs => obtain ⟨vs, e, r⟩ := q; exact ⟨vs, by rw [upd_ne hne]; exact e, Rvs.step R S _ _ r⟩
      | dK xs => obtain ⟨vs, e, r⟩ := q; exact ⟨vs, by rw [upd_ne hne]; exact e, Rkv.step R S _ _ r⟩
      | dT xs => obtain ⟨vs, e, r⟩ := q; exact ⟨vs, e.keep (fun _ z => by rw [upd_ne hne]; exact z) (fun _ _ z => SqN.step R S z), Rkv.step R S _ _ r⟩
      | ins c xs => obtain ⟨dx, vs, e, r⟩ := q; exact ⟨dx, vs, by rw [upd_ne hne]; exact e, Rkv.step R S _ _ r⟩
      | dF xs => obtain ⟨dx, vs, e, r⟩ := q; exact ⟨dx, vs, by rw [upd_ne hne]; exact e, Rkv.step R S _ _ r⟩
    · have hi2 : i = ρ.length := by
        have := (List.getElem?_eq_some_iff.mp h1).1
        simp at this; omega
      subst hi2
      simp at h1
      subst h1
      rw [R.len] at h2
      simp at h2
      subst h2
      exact ho S
/-- a tuple (or anything that is not ours) is laid -/
theorem Rh.laid (R : Rh g ρ H hp) {p : Addr} {u : HO} (hn : H p = none) : Sp1 ρ H ρ (upd H p u) ∧ Rh g ρ (upd H p u) hp := by
  have S : Sp1 ρ H ρ (upd H p u) := ⟨List.prefix_refl _, fun _ h => .inl h, fun b x hb _ => by rw [upd_ne (ne_of_none hb hn)]; exact hb, fun b x u hb => by rw [upd_ne (ne_of_none hb hn)]; exact hb⟩
  refine ⟨S, ⟨R.len, R.nd, fun i a x h1 h2 => ?_⟩⟩
  have q := R.obj i a x h1 h2
  have hne : a ≠ p := fun e => by
    have := q.mut; rw [e, hn] at this; exact this
  cases x with
  | lst xs => obtain ⟨vs, e, r⟩ := q; exact ⟨vs, by rw [upd_ne hne]; exact e, Rvs.step R S _ _ r⟩
  | dK xs => obtain ⟨vs, e, r⟩ := q; exact ⟨vs, by rw [upd_ne hne]; exact e, Rkv.step R S _ _ r⟩
  | dT xs => obtain ⟨vs, e, r⟩ := q; exact ⟨vs, e.keep (fun _ z => by rw [upd_ne hne]; exact z) (fun _ _ z => SqN.step R S z), Rkv.step R S _ _ r⟩
  | ins c xs => obtain ⟨dx, vs, e, r⟩ := q; exact ⟨dx, vs, by rw [upd_ne hne]; exact e, Rkv.step R S _ _ r⟩
  | dF xs => obtain ⟨dx, vs, e, r⟩ := q; exact ⟨dx, vs, by rw [upd_ne hne]; exact e, Rkv.step R S _ _ r⟩
/-- an object of ours is changed -/
theorem Rh.put (R : Rh g ρ H hp) {i : Nat} {a : Addr} {u : HO} {o : Ob} (hi : ρ[i]? = some a) (hfz : ∀ x y, H a ≠ some (.frz x y)) (ho : ∀ (S : Sp1 ρ H ρ (upd H a u)), Ro g ρ (upd H a u) a o) :
    Sp1 ρ H ρ (upd H a u) ∧ Rh g ρ (upd H a u) (hp.set i o) := by
  have hm : a ∈ ρ := List.mem_of_getElem? hi
  have S : Sp1 ρ H ρ (upd H a u) := ⟨List.prefix_refl _, fun _ h => .inl h, fun b x hb hn => by rw [upd_ne (show b ≠ a from fun e => hn (by rw [e]; exact hm))]; exact hb, fun b x y hb => by rw [upd_ne (show b ≠ a from fun e => hfz x y (by rw [← e]; exact hb))]; exact hb⟩
  refine ⟨S, ⟨by simp [R.len], R.nd, fun j b x h1 h2 => ?_⟩⟩
  by_cases hj : i = j
  · subst hj
    rw [hi] at h1; cases h1
    have : i < hp.length := by rw [← R.len]; exact (List.getElem?_eq_some_iff.mp hi).1
    rw [List.getElem?_set_self this] at h2
    cases h2
    exact ho S
  · rw [List.getElem?_set_ne hj] at h2
    have q := R.obj j b x h1 h2
    have hne : b ≠ a := fun e => hj (nd_ix R.nd hi (by rw [e] at h1; exact h1))
    cases x with
    | lst xs => obtain ⟨vs, e, r⟩ := q; exact ⟨vs, by rw [upd_ne hne]; exact e, Rvs.step R S _ _ r⟩
    | dK xs => obtain ⟨vs, e, r⟩ := q; exact ⟨vs, by rw [upd_ne hne]; exact e, Rkv.step R S _ _ r⟩
    | dT xs => obtain ⟨vs, e, r⟩ := q; exact ⟨vs, e.keep (fun _ z => by rw [upd_ne hne]; exact z) (fun _ _ z => SqN.step R S z), Rkv.step R S _ _ r⟩
    | ins c xs => obtain ⟨dx, vs, e, r⟩ := q; exact ⟨dx, vs, by rw [upd_ne hne]; exact e, Rkv.step R S _ _ r⟩
    | dF xs => obtain ⟨dx, vs, e, r⟩ := q; exact ⟨dx, vs, by rw [upd_ne hne]; exact e, Rkv.step R S _ _ r⟩
end

/-! ### ends -/
def PoE (g : Gd) (ρ : List Addr) (H : Hp) (r : Rs Va) (Q : VK) (E : XK) : Prop := match r with
  | .ok v h => ∀ ρ' H' x, Sp1 ρ H ρ' H' → Rh g ρ' H' h → Rv g ρ' H' v x → Q x H'
  | .ex c h => ∀ ρ' H', Sp1 ρ H ρ' H' → Rh g ρ' H' h → E (.ref (g.G c)) none H'
  | .no => False
def PoT (g : Gd) (ρ : List Addr) (H : Hp) (r : Rs Bool) (Q : Bool → Hp → Prop) (E : XK) : Prop := match r with
  | .ok b h => ∀ ρ' H', Sp1 ρ H ρ' H' → Rh g ρ' H' h → Q b H'
  | .ex c h => ∀ ρ' H', Sp1 ρ H ρ' H' → Rh g ρ' H' h → E (.ref (g.G c)) none H'
  | .no => False
def PoA (g : Gd) (ρ : List Addr) (H : Hp) (r : Rs (List Va)) (Q : List V → Hp → Prop) (E : XK) : Prop := match r with
  | .ok vs h => ∀ ρ' H' xs, Sp1 ρ H ρ' H' → Rh g ρ' H' h → Rvs g ρ' H' vs xs → Q xs H'
  | .ex c h => ∀ ρ' H', Sp1 ρ H ρ' H' → Rh g ρ' H' h → E (.ref (g.G c)) none H'
  | .no => False
def PoS (g : Gd) (ρ : List Addr) (H : Hp) (r : RS) (D : Ends) (W : WX) : Prop := match r with
  | .nx s h => ∀ ρ' H' σ, Sp1 ρ H ρ' H' → Rh g ρ' H' h → Rsl g ρ' H' s σ → D.nx σ H'
  | .bk s h => ∀ ρ' H' σ, Sp1 ρ H ρ' H' → Rh g ρ' H' h → Rsl g ρ' H' s σ → D.bk σ H'
  | .ct s h => ∀ ρ' H' σ, Sp1 ρ H ρ' H' → Rh g ρ' H' h → Rsl g ρ' H' s σ → D.ct σ H'
  | .rt v h => ∀ ρ' H' x, Sp1 ρ H ρ' H' → Rh g ρ' H' h → Rv g ρ' H' v x → D.rt x H'
  | .ex c s h => ∀ ρ' H' σ, Sp1 ρ H ρ' H' → Rh g ρ' H' h → Rsl g ρ' H' s σ → W (.ref (g.G c)) none σ H'
  | .no => False
section
variable {g : Gd} {ρ ρ' : List Addr} {H H' : Hp} {Q : VK} {E : XK}
theorem PoE.at {r : Rs Va} (h : PoE g ρ H r Q E) (S : Sp1 ρ H ρ' H') : PoE g ρ' H' r Q E := by
  cases r with
  | ok v hh => exact fun ρ2 H2 x S2 R r => h ρ2 H2 x (S.trans S2) R r
  | ex c hh => exact fun ρ2 H2 S2 R => h ρ2 H2 (S.trans S2) R
  | no => exact h
theorem PoT.at {r : Rs Bool} {Q : Bool → Hp → Prop} (h : PoT g ρ H r Q E) (S : Sp1 ρ H ρ' H') : PoT g ρ' H' r Q E := by
  cases r with
  | ok v hh => exact fun ρ2 H2 S2 R => h ρ2 H2 (S.trans S2) R
  | ex c hh => exact fun ρ2 H2 S2 R => h ρ2 H2 (S.trans S2) R
  | no => exact h
theorem PoA.at {r : Rs (List Va)} {Q : List V → Hp → Prop} (h : PoA g ρ H r Q E) (S : Sp1 ρ H ρ' H') : PoA g ρ' H' r Q E := by
  cases r with
  | ok v hh => exact fun ρ2 H2 x S2 R r => h ρ2 H2 x (S.trans S2) R r
  | ex c hh => exact fun ρ2 H2 S2 R => h ρ2 H2 (S.trans S2) R
  | no => exact h
theorem PoS.at {r : RS} {D : Ends} {W : WX} (h : PoS g ρ H r D W) (S : Sp1 ρ H ρ' H') : PoS g ρ' H' r D W := by
  cases r with
  | nx v hh => exact fun ρ2 H2 x S2 R r => h ρ2 H2 x (S.trans S2) R r
  | bk v hh => exact fun ρ2 H2 x S2 R r => h ρ2 H2 x (S.trans S2) R r
  | ct v hh => exact fun ρ2 H2 x S2 R r => h ρ2 H2 x (S.trans S2) R r
  | rt v hh => exact fun ρ2 H2 x S2 R r => h ρ2 H2 x (S.trans S2) R r
  | ex c v hh => exact fun ρ2 H2 x S2 R r => h ρ2 H2 x (S.trans S2) R r
  | no => exact h
end

/-! ### readings -/
section
variable (g : Gd) (W : WX)
def tE (f : De) : TE := fun σ H Q => ∃ ρ s hp, Rh g ρ H hp ∧ Rsl g ρ H s σ ∧ PoE g ρ H (f s hp) Q (fun c d H' => W c d σ H')
def tT (f : Dt) : TT := fun σ H Q => ∃ ρ s hp, Rh g ρ H hp ∧ Rsl g ρ H s σ ∧ PoT g ρ H (f s hp) Q (fun c d H' => W c d σ H')
def tA (f : Da) : TA := fun σ H Q => ∃ ρ s hp, Rh g ρ H hp ∧ Rsl g ρ H s σ ∧ PoA g ρ H (f s hp) Q (fun c d H' => W c d σ H')
def tS (f : Ds) : TS := fun D σ H => ∃ ρ s hp, Rh g ρ H hp ∧ Rsl g ρ H s σ ∧ PoS g ρ H (f s hp) D W
end
/-- what is asked of the place where code stands -/
structure Cz (g : Gd) (X : Cx) (W : WX) (n : Nat) : Prop where
  K : X.K = g.K
  tk : Takes X W
  calm : X.calm = true
  nd : X.N.Nodup
  room : Room n X.A
  pass : PassesOwn (model X.prog X.w) X.A X.env X.xe
theorem Cz.units {g : Gd} {X : Cx} {W : WX} {n : Nat} (C : Cz g X W n) : X.A.units + 100 < cLine := by have := C.room.un; omega
def SE (g : Gd) (X : Cx) (W : WX) (n : Nat) (e : Expr) (f : De) : Prop := Cz g X W n → PE X e (tE g W f)
def ST (g : Gd) (X : Cx) (W : WX) (n : Nat) (e : Expr) (f : Dt) : Prop := Cz g X W n → PT X e (tT g W f)
def SW (g : Gd) (X : Cx) (W : WX) (n : Nat) (e : Expr) (f : Dt) : Prop := Cz g X W n → PW X e (tT g W f)
def SA (g : Gd) (X : Cx) (W : WX) (n : Nat) (es : List Expr) (f : Da) : Prop := Cz g X W n → PA X es (tA g W f)
def SS (g : Gd) (X : Cx) (W : WX) (n : Nat) (s : Stmt) (f : Ds) : Prop := Cz g X W n → PS X s (tS g W f)
def SB (g : Gd) (X : Cx) (W : WX) (n : Nat) (s : List Stmt) (f : Ds) : Prop := Cz g X W n → PSs X s (tS g W f)

theorem _root_.L2.PE.imp {X : Cx} {e : Expr} {t t' : TE} (h : PE X e t) (q : ∀ σ H Q, t' σ H Q → t σ H Q) : PE X e t' := ⟨fun pins s σ H Q I w => h.run pins s σ H Q I (q _ _ _ w)⟩
theorem _root_.L2.PT.imp {X : Cx} {e : Expr} {t t' : TT} (h : PT X e t) (q : ∀ σ H Q, t' σ H Q → t σ H Q) : PT X e t' := ⟨fun pins s σ H Q I w => h.run pins s σ H Q I (q _ _ _ w)⟩
theorem _root_.L2.PW.imp {X : Cx} {e : Expr} {t t' : TT} (h : PW X e t) (q : ∀ σ H Q, t' σ H Q → t σ H Q) : PW X e t' := ⟨fun wh pins s σ H Q I w => h.run wh pins s σ H Q I (q _ _ _ w)⟩
theorem _root_.L2.PA.imp {X : Cx} {e : List Expr} {t t' : TA} (h : PA X e t) (q : ∀ σ H Q, t' σ H Q → t σ H Q) : PA X e t' := ⟨fun pos pins s σ H Q I w => h.run pos pins s σ H Q I (q _ _ _ w)⟩
theorem _root_.L2.PS.imp {X : Cx} {e : Stmt} {t t' : TS} (h : PS X e t) (q : ∀ D σ H, t' D σ H → t D σ H) : PS X e t' := ⟨fun pins s σ H D I w => h.run pins s σ H D I (q _ _ _ w)⟩
theorem _root_.L2.PSs.imp {X : Cx} {e : List Stmt} {t t' : TS} (h : PSs X e t) (q : ∀ D σ H, t' D σ H → t D σ H) : PSs X e t' := ⟨fun pins s σ H D I w => h.run pins s σ H D I (q _ _ _ w)⟩

section
variable {g : Gd} {W : WX} {σ : L2.St} {H : Hp} {ρ : List Addr} {s : Sg} {hp : Hs}
/-- first f, then k -/
theorem tE.then {f : De} {T : V → Hp → Prop} (R : Rh g ρ H hp) (L : Rsl g ρ H s σ)
    (hx : ∀ c h, f s hp = .ex c h → PoE g ρ H (.ex c h) (fun _ _ => True) (fun c d H' => W c d σ H')) (hn : f s hp ≠ .no)
    (hk : ∀ v h ρ1 H1 x, f s hp = .ok v h → Sp1 ρ H ρ1 H1 → Rh g ρ1 H1 h → Rv g ρ1 H1 v x → Rsl g ρ1 H1 s σ → T x H1) : tE g W f σ H T := by
  refine ⟨ρ, s, hp, R, L, ?_⟩
  cases q : f s hp with
  | ok v h => exact fun ρ1 H1 x S R1 r => hk v h ρ1 H1 x q S R1 r (L.step R S)
  | ex c h => exact hx c h q
  | no => exact absurd q hn
end
end Wr

set_option Elab.async false
set_option linter.all false
set_option maxRecDepth 100000
set_option maxHeartbeats 4000000
set_option autoImplicit false
namespace Wr
open PySem PySem.Spec PyProof.Rows L2

/-! ### binds -/
section
variable {g : Gd} {W : WX} {σ : L2.St} {H : Hp} {ρ : List Addr} {s : Sg} {hp : Hs}
abbrev EW (W : WX) (σ : L2.St) : XK := fun c d H' => W c d σ H'
theorem bE {f : De} {k : Va → Hs → Rs Va} {Q : VK} {T : V → Hp → Prop} (h : PoE g ρ H ((f s hp).bind k) Q (EW W σ)) (R : Rh g ρ H hp) (L : Rsl g ρ H s σ)
    (hk : ∀ v h ρ1 H1 x, Sp1 ρ H ρ1 H1 → Rh g ρ1 H1 h → Rv g ρ1 H1 v x → Rsl g ρ1 H1 s σ → PoE g ρ1 H1 (k v h) Q (EW W σ) → T x H1) : tE g W f σ H T := by
  refine ⟨ρ, s, hp, R, L, ?_⟩
  cases q : f s hp with
  | ok v h1 => rw [q] at h; exact fun ρ1 H1 x S R1 r => hk v h1 ρ1 H1 x S R1 r (L.step R S) (PoE.at h S)
  | ex c h1 => rw [q] at h; exact h
  | no => rw [q] at h; exact h
theorem bT {f : De} {k : Va → Hs → Rs Bool} {Q : Bool → Hp → Prop} {T : V → Hp → Prop} (h : PoT g ρ H ((f s hp).bind k) Q (EW W σ)) (R : Rh g ρ H hp) (L : Rsl g ρ H s σ)
    (hk : ∀ v h ρ1 H1 x, Sp1 ρ H ρ1 H1 → Rh g ρ1 H1 h → Rv g ρ1 H1 v x → Rsl g ρ1 H1 s σ → PoT g ρ1 H1 (k v h) Q (EW W σ) → T x H1) : tE g W f σ H T := by
  refine ⟨ρ, s, hp, R, L, ?_⟩
  cases q : f s hp with
  | ok v h1 => rw [q] at h; exact fun ρ1 H1 x S R1 r => hk v h1 ρ1 H1 x S R1 r (L.step R S) (PoT.at h S)
  | ex c h1 => rw [q] at h; exact h
  | no => rw [q] at h; exact h
theorem bA {f : De} {k : Va → Hs → Rs (List Va)} {Q : List V → Hp → Prop} {T : V → Hp → Prop} (h : PoA g ρ H ((f s hp).bind k) Q (EW W σ)) (R : Rh g ρ H hp) (L : Rsl g ρ H s σ)
    (hk : ∀ v h ρ1 H1 x, Sp1 ρ H ρ1 H1 → Rh g ρ1 H1 h → Rv g ρ1 H1 v x → Rsl g ρ1 H1 s σ → PoA g ρ1 H1 (k v h) Q (EW W σ) → T x H1) : tE g W f σ H T := by
  refine ⟨ρ, s, hp, R, L, ?_⟩
  cases q : f s hp with
  | ok v h1 => rw [q] at h; exact fun ρ1 H1 x S R1 r => hk v h1 ρ1 H1 x S R1 r (L.step R S) (PoA.at h S)
  | ex c h1 => rw [q] at h; exact h
  | no => rw [q] at h; exact h
/-- a test first -/
theorem tBE {f : Dt} {k : Bool → Hs → Rs Va} {Q : VK} {T : Bool → Hp → Prop} (h : PoE g ρ H ((f s hp).bind k) Q (EW W σ)) (R : Rh g ρ H hp) (L : Rsl g ρ H s σ)
    (hk : ∀ v h ρ1 H1, Sp1 ρ H ρ1 H1 → Rh g ρ1 H1 h → Rsl g ρ1 H1 s σ → PoE g ρ1 H1 (k v h) Q (EW W σ) → T v H1) : tT g W f σ H T := by
  refine ⟨ρ, s, hp, R, L, ?_⟩
  cases q : f s hp with
  | ok v h1 => rw [q] at h; exact fun ρ1 H1 S R1 => hk v h1 ρ1 H1 S R1 (L.step R S) (PoE.at h S)
  | ex c h1 => rw [q] at h; exact h
  | no => rw [q] at h; exact h
theorem tBT {f : Dt} {k : Bool → Hs → Rs Bool} {Q : Bool → Hp → Prop} {T : Bool → Hp → Prop} (h : PoT g ρ H ((f s hp).bind k) Q (EW W σ)) (R : Rh g ρ H hp) (L : Rsl g ρ H s σ)
    (hk : ∀ v h ρ1 H1, Sp1 ρ H ρ1 H1 → Rh g ρ1 H1 h → Rsl g ρ1 H1 s σ → PoT g ρ1 H1 (k v h) Q (EW W σ) → T v H1) : tT g W f σ H T := by
  refine ⟨ρ, s, hp, R, L, ?_⟩
  cases q : f s hp with
  | ok v h1 => rw [q] at h; exact fun ρ1 H1 S R1 => hk v h1 ρ1 H1 S R1 (L.step R S) (PoT.at h S)
  | ex c h1 => rw [q] at h; exact h
  | no => rw [q] at h; exact h
/-- arguments first -/
theorem aBE {f : Da} {k : List Va → Hs → Rs Va} {Q : VK} {T : List V → Hp → Prop} (h : PoE g ρ H ((f s hp).bind k) Q (EW W σ)) (R : Rh g ρ H hp) (L : Rsl g ρ H s σ)
    (hk : ∀ v h ρ1 H1 x, Sp1 ρ H ρ1 H1 → Rh g ρ1 H1 h → Rvs g ρ1 H1 v x → Rsl g ρ1 H1 s σ → PoE g ρ1 H1 (k v h) Q (EW W σ) → T x H1) : tA g W f σ H T := by
  refine ⟨ρ, s, hp, R, L, ?_⟩
  cases q : f s hp with
  | ok v h1 => rw [q] at h; exact fun ρ1 H1 x S R1 r => hk v h1 ρ1 H1 x S R1 r (L.step R S) (PoE.at h S)
  | ex c h1 => rw [q] at h; exact h
  | no => rw [q] at h; exact h
theorem aBA {f : Da} {k : List Va → Hs → Rs (List Va)} {Q : List V → Hp → Prop} {T : List V → Hp → Prop} (h : PoA g ρ H ((f s hp).bind k) Q (EW W σ)) (R : Rh g ρ H hp) (L : Rsl g ρ H s σ)
    (hk : ∀ v h ρ1 H1 x, Sp1 ρ H ρ1 H1 → Rh g ρ1 H1 h → Rvs g ρ1 H1 v x → Rsl g ρ1 H1 s σ → PoA g ρ1 H1 (k v h) Q (EW W σ) → T x H1) : tA g W f σ H T := by
  refine ⟨ρ, s, hp, R, L, ?_⟩
  cases q : f s hp with
  | ok v h1 => rw [q] at h; exact fun ρ1 H1 x S R1 r => hk v h1 ρ1 H1 x S R1 r (L.step R S) (PoA.at h S)
  | ex c h1 => rw [q] at h; exact h
  | no => rw [q] at h; exact h
/-- .. in a statement -/
def Rs.bindS {α : Type} (r : Rs α) (s : Sg) (k : α → Hs → RS) : RS := match r with
  | .ok a h => k a h
  | .ex c h => .ex c s h
  | .no => .no
theorem bS {f : De} {k : Va → Hs → RS} {D : Ends} {T : V → Hp → Prop} (h : PoS g ρ H ((f s hp).bindS s k) D W) (R : Rh g ρ H hp) (L : Rsl g ρ H s σ)
    (hk : ∀ v h ρ1 H1 x, Sp1 ρ H ρ1 H1 → Rh g ρ1 H1 h → Rv g ρ1 H1 v x → Rsl g ρ1 H1 s σ → PoS g ρ1 H1 (k v h) D W → T x H1) : tE g W f σ H T := by
  refine ⟨ρ, s, hp, R, L, ?_⟩
  cases q : f s hp with
  | ok v h1 => rw [q] at h; exact fun ρ1 H1 x S R1 r => hk v h1 ρ1 H1 x S R1 r (L.step R S) (PoS.at h S)
  | ex c h1 => rw [q] at h; exact fun ρ1 H1 S R1 => h ρ1 H1 σ S R1 (L.step R S)
  | no => rw [q] at h; exact h
theorem tBS {f : Dt} {k : Bool → Hs → RS} {D : Ends} {T : Bool → Hp → Prop} (h : PoS g ρ H ((f s hp).bindS s k) D W) (R : Rh g ρ H hp) (L : Rsl g ρ H s σ)
    (hk : ∀ v h ρ1 H1, Sp1 ρ H ρ1 H1 → Rh g ρ1 H1 h → Rsl g ρ1 H1 s σ → PoS g ρ1 H1 (k v h) D W → T v H1) : tT g W f σ H T := by
  refine ⟨ρ, s, hp, R, L, ?_⟩
  cases q : f s hp with
  | ok v h1 => rw [q] at h; exact fun ρ1 H1 S R1 => hk v h1 ρ1 H1 S R1 (L.step R S) (PoS.at h S)
  | ex c h1 => rw [q] at h; exact fun ρ1 H1 S R1 => h ρ1 H1 σ S R1 (L.step R S)
  | no => rw [q] at h; exact h
theorem aBS {f : Da} {k : List Va → Hs → RS} {D : Ends} {T : List V → Hp → Prop} (h : PoS g ρ H ((f s hp).bindS s k) D W) (R : Rh g ρ H hp) (L : Rsl g ρ H s σ)
    (hk : ∀ v h ρ1 H1 x, Sp1 ρ H ρ1 H1 → Rh g ρ1 H1 h → Rvs g ρ1 H1 v x → Rsl g ρ1 H1 s σ → PoS g ρ1 H1 (k v h) D W → T x H1) : tA g W f σ H T := by
  refine ⟨ρ, s, hp, R, L, ?_⟩
  cases q : f s hp with
  | ok v h1 => rw [q] at h; exact fun ρ1 H1 x S R1 r => hk v h1 ρ1 H1 x S R1 r (L.step R S) (PoS.at h S)
  | ex c h1 => rw [q] at h; exact fun ρ1 H1 S R1 => h ρ1 H1 σ S R1 (L.step R S)
  | no => rw [q] at h; exact h
end

/-! ### names, constants -/
section
variable {g : Gd} {X : Cx} {W : WX} {n : Nat}
def dVar (i : Nat) : De := fun s h => match s[i]? with
  | some (some v) => .ok v h
  | _ => .no
def dC (v : Va) : De := fun _ h => .ok v h
theorem e_var (i : Nat) {x : Str} {pos : Pos} (hN : X.N[i]? = some x := by rfl) (hv : Vis X.env.scope x := by first | exact Or.inl rfl | exact Or.inr (Or.inl rfl) | exact Or.inr (Or.inr rfl)) (hd : (x == ("__debug__" : Str)) = false := by decide)
    (hcd : (x == ("__classdict__" : Str)) = false := by decide) : SE g X W n (.Name x pos) (dVar i) := by
  intro C
  refine (pe_var hN hv hd hcd).imp ?_
  rintro σ H Q ⟨ρ, s, hp, R, L, h⟩
  unfold dVar at h
  split at h
  · rename_i v q
    obtain ⟨x, e, r⟩ := L.at_ i v q
    exact ⟨x, e, h ρ H x (.refl _ _) R r⟩
  · exact h.elim
/-- what is a constant at every heap -/
def Steady (g : Gd) (v : Va) (x : V) : Prop := ∀ ρ H, Rv g ρ H v x
theorem e_tC {e : Expr} {v : Va} {x : V} (hp : PE X e (tC x)) (hs : Steady g v x) : PE X e (tE g W (dC v)) := by
  refine hp.imp ?_
  rintro σ H Q ⟨ρ, s, hp, R, L, h⟩
  exact h ρ H x (.refl _ _) R (hs ρ H)
theorem e_int {i : Int} {j : Nat} {pos : Pos} : SE g X W n (.Constant (.int i) j pos) (dC (.int i)) := fun _ => e_tC pe_int fun _ _ => by simp only [Rv]
theorem e_bl {b : Bool} {j : Nat} {pos : Pos} : SE g X W n (.Constant (.bool b) j pos) (dC (.bl b)) := fun _ => e_tC pe_bl fun _ _ => by simp only [Rv]
theorem e_non {j : Nat} {pos : Pos} : SE g X W n (.Constant .none j pos) (dC .non) := fun _ => e_tC pe_non fun _ _ => by simp only [Rv]
theorem e_str {x : Str} (y : Str) {j : Nat} {pos : Pos} (h : x = y := by rfl) : SE g X W n (.Constant (.str x) j pos) (dC (.str y)) := fun _ => by
  subst h
  exact e_tC pe_str fun _ _ => by simp only [Rv]
/-- a module's constant -/
theorem e_glob {x : Str} {v : Va} {y : V} {u : Value} {pos : Pos} (hm : X.mg x = some u) (r : RelV y u) (hs : Steady g v y) (hg : Gl X x := by rfl) (hd : (x == ("__debug__" : Str)) = false := by decide) : SE g X W n (.Name x pos) (dC v) :=
  fun _ => e_tC (pe_glob hg hm r hd) hs
theorem e_bltn {x : Str} {T : String} {u : Value} {pos : Pos} (hm : X.mg x = none) (hv : bootBuiltins x = some u) (r : RelV (.ty T) u) (hg : Gl X x := by rfl) (hn : x ≠ "__name__" := by decide) (hd : (x == ("__debug__" : Str)) = false := by decide) :
    SE g X W n (.Name x pos) (dC (.ty T)) := fun _ => e_tC (pe_bltn hg hm hv r hn hd) fun _ _ => by simp only [Rv]

/-! ### arguments, displays -/
def aNil : Da := fun _ h => .ok [] h
def aCons (f : De) (r : Da) : Da := fun s h => (f s h).bind fun x h1 => (r s h1).bind fun xs h2 => .ok (x :: xs) h2
theorem a_nil : SA g X W n [] aNil := fun _ => pa_nil.imp fun σ H Q ⟨ρ, s, hp, R, L, h⟩ => h ρ H [] (.refl _ _) R Rvs.nil
theorem a_cons {e : Expr} {es : List Expr} {f : De} {r : Da} (he : SE g X W n e f) (hr : SA g X W n es r) (hs : starEach (e :: es) X.env = (false, eval e X.env) :: starEach es X.env := by rfl) : SA g X W n (e :: es) (aCons f r) := by
  intro C
  refine (pa_cons (he C) (hr C) hs).imp ?_
  rintro σ H Q ⟨ρ, s, hp, R, L, h⟩
  refine bA h R L fun v h1 ρ1 H1 x S1 R1 r1 L1 p1 => ?_
  refine aBA p1 R1 L1 fun vs h2 ρ2 H2 xs S2 R2 r2 L2 p2 => ?_
  exact p2 ρ2 H2 (x :: xs) (.refl _ _) R2 (Rvs.cons (Rv.step R1 S2 _ _ r1) r2)

/-! ### new tuples: the object is known -/
abbrev tupO (us : List Value) : Obj := { cls := .type "tuple", data := .seq us.toArray }
/-- a new tuple is laid -/
theorem laidN {pins : List (Addr × Obj)} {σ : L2.St} {H : Hp} {s : Shared} {h' : Heap} {p : Addr} {vs : List V} {us : List Value} {t' : Nat} (I : Inv X pins σ H s) (k : ∀ b u, s.heap.get? b = some u → h'.get? b = some u) (hp : s.heap.objs.size ≤ p)
    (e : h'.get? p = some (tupO us)) (r : Vals vs us) (hz : vs.length ≤ sizeLine) : Inv X pins σ (upd H p (.frz (tupO us) (.tup vs))) { s with heap := h', toks := t' } :=
  I.laid k hp ⟨e, hz, us, r, ⟨_, e, rfl, 0, rfl⟩⟩
/-- what a new tuple means to us -/
theorem new_tup {ρ : List Addr} {H : Hp} {hp : Hs} {xs : List Va} {vs : List V} {us : List Value} {p : Addr} (R : Rh g ρ H hp) (hn : H p = none) (r : Rvs g ρ H xs vs) :
    Sp1 ρ H ρ (upd H p (.frz (tupO us) (.tup vs))) ∧ Rh g ρ (upd H p (.frz (tupO us) (.tup vs))) hp ∧ Rv g ρ (upd H p (.frz (tupO us) (.tup vs))) (.tup xs) (.ref p) := by
  obtain ⟨S, R'⟩ := R.laid (u := .frz (tupO us) (.tup vs)) hn
  refine ⟨S, R', ?_⟩
  simp only [Rv]
  exact ⟨p, vs, rfl, .inl ⟨_, upd_same, rfl⟩, Rvs.step R S _ _ r⟩
def tTupN (t : TA) : TE := fun σ H Q => t σ H fun xs H1 => xs.length ≤ sizeLine ∧ ∀ p us, H1 p = none → Q (.ref p) (upd H1 p (.frz (tupO us) (.tup xs)))
theorem pe_tupN {es : List Expr} {t : TA} {x1 : Nat} {pos : Pos} (h : PA X es t) : PE X (.Tuple es x1 pos) (tTupN t) := by
  refine ⟨fun pins s σ H Q I hq => ?_⟩
  refine wpAny_Tuple_spliced (thn (h.run pos pins s σ H _ I hq) fun us s1 ⟨xs, H1, I1, r, z, q⟩ => ⟨by rw [← r.length]; exact z, ?_⟩)
  have hf : H1 s1.heap.objs.size = none := I1.hok.fresh (Nat.le_refl _)
  exact ⟨.ref s1.heap.objs.size, _, laidN (t' := s1.toks) I1 (fun b u e => Heap.get?_push_of_some _ e) (Nat.le_refl _) (Heap.get?_push_size _ rfl) r z, rfl, q _ us hf⟩
def okN (n : Nat) : Bool := decide (n ≤ 16777216)
theorem okN_le {n : Nat} (h : okN n = true) : n ≤ sizeLine := by
  have := of_decide_eq_true h
  rw [sizeLine_eq]; exact this
def dTup (f : Da) : De := fun s h => (f s h).bind fun xs h1 => if okN xs.length then .ok (.tup xs) h1 else .no
theorem e_tup {es : List Expr} {f : Da} {x1 : Nat} {pos : Pos} (he : SA g X W n es f) : SE g X W n (.Tuple es x1 pos) (dTup f) := by
  intro C
  refine (pe_tupN (he C)).imp ?_
  rintro σ H Q ⟨ρ, s, hp, R, L, h⟩
  refine aBE h R L fun vs h2 ρ2 H2 xs S2 R2 r2 L2 p2 => ?_
  by_cases hz : okN vs.length = true
  · rw [if_pos hz] at p2
    refine ⟨by rw [← r2.length]; exact okN_le hz, fun p us hn => ?_⟩
    obtain ⟨S3, R3, r3⟩ := new_tup (us := us) R2 hn r2
    exact p2 _ _ _ S3 R3 r3
  · rw [if_neg hz] at p2; exact p2.elim
/-- a new list, dict .. of ours -/
theorem new_lst {ρ : List Addr} {H : Hp} {hp : Hs} {xs : List Va} {vs : List V} {p : Addr} (R : Rh g ρ H hp) (hn : H p = none) (r : Rvs g ρ H xs vs) :
    Sp1 ρ H (ρ ++ [p]) (upd H p (.lst vs)) ∧ Rh g (ρ ++ [p]) (upd H p (.lst vs)) (hp ++ [.lst xs]) ∧ Rv g (ρ ++ [p]) (upd H p (.lst vs)) (.ref hp.length) (.ref p) := by
  obtain ⟨S, R'⟩ := R.new (u := .lst vs) (o := .lst xs) hn fun S => ⟨vs, upd_same, Rvs.step R S _ _ r⟩
  refine ⟨S, R', ?_⟩
  simp only [Rv]
  exact ⟨p, by rw [← R.len]; simp, rfl⟩
def mkL (xs : List Va) (h : Hs) : Rs Va := if okN xs.length then .ok (.ref h.length) (h ++ [.lst xs]) else .no
def dLst (f : Da) : De := fun s h => (f s h).bind mkL
theorem e_lst {es : List Expr} {f : Da} {pos : Pos} (he : SA g X W n es f) : SE g X W n (.List es pos) (dLst f) := by
  intro C
  refine (pe_lst (he C)).imp ?_
  rintro σ H Q ⟨ρ, s, hp, R, L, h⟩
  refine aBE h R L fun vs h2 ρ2 H2 xs S2 R2 r2 L2 p2 => ?_
  unfold mkL at p2
  by_cases hz : okN vs.length = true
  · rw [if_pos hz] at p2
    refine ⟨by rw [← r2.length]; exact okN_le hz, fun p hn => ?_⟩
    obtain ⟨S3, R3, r3⟩ := new_lst R2 hn r2
    exact p2 _ _ _ S3 R3 r3
  · rw [if_neg hz] at p2; exact p2.elim

/-! ### operators by values -/
abbrev K2 := Va → Va → Hs → Option (Va × Hs)
def liftO (o : Option (Va × Hs)) : Rs Va := match o with
  | some (v, h) => .ok v h
  | none => .no
/-- k tells what the rule r does -/
def P2 (g : Gd) (r : R2) (k : K2) : Prop := ∀ (ρ : List Addr) (H : Hp) (hp : Hs) (x y : Va) (vx vy : V) (v : Va) (h' : Hs) (Q : VK), Rh g ρ H hp → Rv g ρ H x vx → Rv g ρ H y vy → k x y hp = some (v, h') →
  (∀ ρ' H' z, Sp1 ρ H ρ' H' → Rh g ρ' H' h' → Rv g ρ' H' v z → Q z H') → r vx vy H Q
def dOp (k : K2) (fa fb : De) : De := fun s h => (fa s h).bind fun x h1 => (fb s h1).bind fun y h2 => liftO (k x y h2)
theorem op_imp {r : R2} {k : K2} (pk : P2 g r k) {fa fb : De} {σ : L2.St} {H : Hp} {Q : VK} (h : tE g W (dOp k fa fb) σ H Q) : tOp r (tE g W fa) (tE g W fb) σ H Q := by
  obtain ⟨ρ, s, hp, R, L, h⟩ := h
  refine bE h R L fun x h1 ρ1 H1 vx S1 R1 r1 L1 p1 => ?_
  refine bE p1 R1 L1 fun y h2 ρ2 H2 vy S2 R2 r2 L2 p2 => ?_
  cases q : k x y h2 with
  | none => rw [q] at p2; exact p2.elim
  | some w =>
    obtain ⟨v, h3⟩ := w
    rw [q] at p2
    exact pk ρ2 H2 h2 x y vx vy v h3 Q R2 (Rv.step R1 S2 _ _ r1) r2 q fun ρ3 H3 z S3 R3 r3 => p2 ρ3 H3 z S3 R3 r3
theorem e_op {op : Operator} {a b : Expr} {fa fb : De} {r : R2} {k : K2} {pos : Pos} (ho : ∀ X : Cx, X.K = g.K → OpR X (binaryOp op) r) (pk : P2 g r k) (ha : SE g X W n a fa) (hb : SE g X W n b fb) : SE g X W n (.BinOp a op b pos) (dOp k fa fb) :=
  fun C => (pe_op (ho X C.K) (ha C) (hb C)).imp fun _ _ _ h => op_imp pk h
/-- comparisons: the stack's room and calm are known -/
abbrev OpC (g : Gd) (op : CmpOp) (r : R2) : Prop := ∀ X : Cx, X.K = g.K → X.A.units + 100 < cLine → OpR X (compareOp op) r
theorem e_cmp {op : CmpOp} {a b : Expr} {fa fb : De} {r : R2} {k : K2} {pos : Pos} (ho : OpC g op r) (pk : P2 g r k) (ha : SE g X W n a fa) (hb : SE g X W n b fb) (hm : behindInMarks op b = false := by first | exact nomark _ | rfl) :
    SE g X W n (.Compare a [op] [b] pos) (dOp k fa fb) :=
  fun C => (pe_cmpR (ho X C.K C.units) (ha C) (hb C) hm).imp fun _ _ _ h => op_imp pk h
/-- .. as a test -/
def isB (v : Va) (h : Hs) : Rs Bool := match v with
  | .bl b => .ok b h
  | _ => .no
def dTest (f : De) : Dt := fun s h => (f s h).bind isB
theorem test_imp {f : De} {σ : L2.St} {H : Hp} {Q : Bool → Hp → Prop} (h : tT g W (dTest f) σ H Q) : tE g W f σ H (fun x H' => ∃ k, x = .bl k ∧ Q k H') := by
  obtain ⟨ρ, s, hp, R, L, h⟩ := h
  refine bT h R L fun x h1 ρ1 H1 vx S1 R1 r1 L1 p1 => ?_
  cases x with
  | bl b =>
    simp only [Rv] at r1
    exact ⟨b, r1, p1 ρ1 H1 (.refl _ _) R1⟩
  | _ => exact p1.elim
theorem PE_mono {X : Cx} {e : Expr} {f : De} (h : PE X e (tE g W f)) : PE X e (tE g W f) := h
theorem tE_mono {f : De} {σ : L2.St} {H : Hp} {Q Q' : VK} (h : tE g W f σ H Q) (q : ∀ x H', Q x H' → Q' x H') : tE g W f σ H Q' := by
  obtain ⟨ρ, s, hp, R, L, h⟩ := h
  refine ⟨ρ, s, hp, R, L, ?_⟩
  cases e : f s hp with
  | ok v h1 => rw [e] at h; exact fun ρ1 H1 x S R1 r => q _ _ (h ρ1 H1 x S R1 r)
  | ex c h1 => rw [e] at h; exact h
  | no => rw [e] at h; exact h
theorem t_cmp {op : CmpOp} {a b : Expr} {fa fb : De} {r : R2} {k : K2} {pos : Pos} (ho : OpC g op r) (pk : P2 g r k) (ha : SE g X W n a fa) (hb : SE g X W n b fb) (hm : behindInMarks op b = false := by first | exact nomark _ | rfl) :
    ST g X W n (.Compare a [op] [b] pos) (dTest (dOp k fa fb)) :=
  fun C => (pt_cmpR (ho X C.K C.units) (ha C) (hb C) hm).imp fun _ _ _ h => op_imp pk (test_imp h)
theorem t_val {e : Expr} {f : De} (h : SE g X W n e f) (he : ∀ whole, isTrue e X.env whole = (do let v ← whole; standAt e.pos; holding [v] (truthy v)) := by intro _; rfl) : ST g X W n e (dTest f) :=
  fun C => (pt_val (h C) he).imp fun _ _ _ q => test_imp q
/-- a op b op' c -/
def dChain (k k' : K2) (fa fb fc : De) : De := fun s h => (fa s h).bind fun x h1 => (fb s h1).bind fun y h2 => (liftO (k x y h2)).bind fun z h3 => match z with
  | .bl true => (fc s h3).bind fun w h4 => liftO (k' y w h4)
  | .bl false => .ok (.bl false) h3
  | _ => .no
theorem chain_imp {r r' : R2} {k k' : K2} (pk : P2 g r k) (pk' : P2 g r' k') {fa fb fc : De} {σ : L2.St} {H : Hp} {Q : VK} (h : tE g W (dChain k k' fa fb fc) σ H Q) :
    tChain r r' (tE g W fa) (tE g W fb) (tE g W fc) σ H Q := by
  obtain ⟨ρ, s, hp, R, L, h⟩ := h
  refine bE h R L fun x h1 ρ1 H1 vx S1 R1 r1 L1 p1 => ?_
  refine bE p1 R1 L1 fun y h2 ρ2 H2 vy S2 R2 r2 L2 p2 => ?_
  cases q : k x y h2 with
  | none => rw [q] at p2; exact p2.elim
  | some w =>
    obtain ⟨v, h3⟩ := w
    rw [q] at p2
    refine pk ρ2 H2 h2 x y vx vy v h3 _ R2 (Rv.step R1 S2 _ _ r1) r2 q fun ρ3 H3 z S3 R3 r3 => ?_
    have p3 := PoE.at p2 S3
    cases v with
    | bl b =>
      simp only [Rv] at r3
      refine ⟨b, r3, ?_⟩
      cases b with
      | true =>
        show tE g W fc σ H3 _
        refine bE p3 R3 (L2.step R2 S3) fun w h4 ρ4 H4 vw S4 R4 r4 L4 p4 => ?_
        cases q' : k' y w h4 with
        | none => rw [q'] at p4; exact p4.elim
        | some w' =>
          obtain ⟨v', h5⟩ := w'
          rw [q'] at p4
          exact pk' ρ4 H4 h4 y w vy vw v' h5 Q R4 (Rv.step R3 S4 _ _ (Rv.step R2 S3 _ _ r2)) r4 q' fun ρ5 H5 z S5 R5 r5 => p4 ρ5 H5 z S5 R5 r5
      | false =>
        show Q (.bl false) H3
        exact p3 ρ3 H3 _ (.refl _ _) R3 (by simp only [Rv])
    | _ => exact p3.elim
end
end Wr

set_option Elab.async false
set_option linter.all false
set_option maxRecDepth 100000
set_option maxHeartbeats 4000000
set_option autoImplicit false
namespace Wr
open PySem PySem.Spec PyProof.Rows L2

/-! ### renumbering -/
def idx : List Nat → Nat → Option Nat
  | [], _ => none
  | x :: t, j => if x == j then some 0 else (idx t j).map (· + 1)
theorem idx_get : ∀ {m : List Nat} {j i : Nat}, idx m j = some i → m[i]? = some j
  | [], _, _, h => by cases h
  | x :: t, j, i, h => by
    unfold idx at h
    by_cases e : (x == j) = true
    · rw [if_pos e] at h; cases h; simp at e; subst e; rfl
    · rw [if_neg e] at h
      obtain ⟨k, hk, rfl⟩ := Option.map_eq_some_iff.mp h
      simpa using idx_get hk
theorem idx_of : ∀ {m : List Nat} {j i : Nat}, m.Nodup → m[i]? = some j → idx m j = some i
  | [], _, _, _, h => by simp at h
  | x :: t, j, 0, _, h => by simp at h; subst h; simp [idx]
  | x :: t, j, i + 1, hn, h => by
    have hn' := List.nodup_cons.mp hn
    have h' : t[i]? = some j := by simpa using h
    have hne : (x == j) = false := by
      refine beq_eq_false_iff_ne.mpr fun e => hn'.1 ?_
      rw [e]; exact List.mem_of_getElem? h'
    unfold idx
    rw [hne]
    simp [idx_of hn'.2 h']
theorem idx_none {m : List Nat} {j : Nat} (hn : m.Nodup) (h : idx m j = none) : j ∉ m := fun hm => by
  obtain ⟨i, hi, e⟩ := List.getElem_of_mem hm
  rw [idx_of hn (show m[i]? = some j by rw [List.getElem?_eq_getElem hi, e])] at h
  cases h
def nodupB : List Nat → Bool
  | [] => true
  | x :: t => !(t.contains x) && nodupB t
theorem nodupB_ok : ∀ {m : List Nat}, nodupB m = true → m.Nodup
  | [], _ => List.nodup_nil
  | x :: t, h => by
    unfold nodupB at h
    rw [Bool.and_eq_true, Bool.not_eq_true'] at h
    refine List.nodup_cons.mpr ⟨fun hm => ?_, nodupB_ok h.2⟩
    have := List.contains_iff_mem.mpr hm
    rw [h.1] at this; cases this
mutual
def ren (f : Nat → Option Nat) : Va → Option Va
  | .ref i => (f i).map .ref
  | .tup xs => (rens f xs).map .tup
  | .non => some .non
  | .bl b => some (.bl b)
  | .int i => some (.int i)
  | .str x => some (.str x)
  | .ty n => some (.ty n)
  | .gl n => some (.gl n)
  | .scr => some .scr
def rens (f : Nat → Option Nat) : List Va → Option (List Va)
  | [] => some []
  | x :: xs => match ren f x with
    | some a => match rens f xs with
      | some b => some (a :: b)
      | none => none
    | none => none
end
def renK {κ : Type} (f : Nat → Option Nat) : List (κ × Va) → Option (List (κ × Va))
  | [] => some []
  | (k, x) :: xs => match ren f x with
    | some a => match renK f xs with
      | some b => some ((k, a) :: b)
      | none => none
    | none => none
def renO (f : Nat → Option Nat) : Ob → Option Ob
  | .lst xs => (rens f xs).map .lst
  | .dK kvs => (renK f kvs).map .dK
  | .dT kvs => (renK f kvs).map .dT
  | .ins c fs => (renK f fs).map (.ins c)
  | .dF kvs => (renK f kvs).map .dF
section
variable {g : Gd} {ρ ρ' : List Addr} {H : Hp} {f : Nat → Option Nat}
def Moves (f : Nat → Option Nat) (ρ ρ' : List Addr) : Prop := ∀ (i j : Nat) (a : Addr), f i = some j → ρ[i]? = some a → ρ'[j]? = some a
mutual
theorem ren_ok (hf : Moves f ρ ρ') : ∀ (x : Va) (v : V) (x' : Va), Rv g ρ H x v → ren f x = some x' → Rv g ρ' H x' v
  | .ref i, v, x', h, e => by
    unfold ren at e
    obtain ⟨j, hj, rfl⟩ := Option.map_eq_some_iff.mp e
    simp only [Rv] at h ⊢
    obtain ⟨a, h1, h2⟩ := h
    exact ⟨a, hf i j a hj h1, h2⟩
  | .tup xs, v, x', h, e => by
    unfold ren at e
    obtain ⟨ys, hj, rfl⟩ := Option.map_eq_some_iff.mp e
    simp only [Rv] at h ⊢
    obtain ⟨a, vs, h1, h2, h3⟩ := h
    exact ⟨a, vs, h1, h2, rens_ok hf xs vs ys h3 hj⟩
  | .non, v, x', h, e => by unfold ren at e; cases e; simpa only [Rv] using h
  | .bl _, v, x', h, e => by unfold ren at e; cases e; simpa only [Rv] using h
  | .int _, v, x', h, e => by unfold ren at e; cases e; simpa only [Rv] using h
  | .str _, v, x', h, e => by unfold ren at e; cases e; simpa only [Rv] using h
  | .ty _, v, x', h, e => by unfold ren at e; cases e; simpa only [Rv] using h
  | .gl _, v, x', h, e => by unfold ren at e; cases e; simpa only [Rv] using h
  | .scr, v, x', h, e => by unfold ren at e; cases e; simpa only [Rv] using h
theorem rens_ok (hf : Moves f ρ ρ') : ∀ (x : List Va) (v : List V) (x' : List Va), Rvs g ρ H x v → rens f x = some x' → Rvs g ρ' H x' v
  | [], v, x', h, e => by unfold rens at e; cases e; simpa only [Rvs] using h
  | x :: xs, v, x', h, e => by
    unfold rens at e
    split at e
    · rename_i a ha
      split at e
      · rename_i b hb
        cases e
        simp only [Rvs] at h ⊢
        obtain ⟨w, r, h1, h2, h3⟩ := h
        exact ⟨w, r, h1, ren_ok hf x w a h2 ha, rens_ok hf xs r b h3 hb⟩
      · cases e
    · cases e
end
theorem renK_ok {κ : Type} (hf : Moves f ρ ρ') : ∀ (x : List (κ × Va)) (v : List (κ × V)) (x' : List (κ × Va)), Rkv g ρ H x v → renK f x = some x' → Rkv g ρ' H x' v
  | [], v, x', h, e => by unfold renK at e; cases e; exact h
  | (k, x) :: xs, v, x', h, e => by
    unfold renK at e
    split at e
    · rename_i a ha
      split at e
      · rename_i b hb
        cases e
        obtain ⟨w, r, h1, h2, h3⟩ := h
        exact ⟨w, r, h1, ren_ok hf x w a h2 ha, renK_ok hf xs r b h3 hb⟩
      · cases e
    · cases e
theorem renO_ok (hf : Moves f ρ ρ') {a : Addr} {o o' : Ob} (h : Ro g ρ H a o) (e : renO f o = some o') : Ro g ρ' H a o' := by
  cases o with
  | lst xs =>
    obtain ⟨ys, hy, rfl⟩ := Option.map_eq_some_iff.mp e
    obtain ⟨vs, h1, h2⟩ := h
    exact ⟨vs, h1, rens_ok hf _ _ _ h2 hy⟩
  | dK xs =>
    obtain ⟨ys, hy, rfl⟩ := Option.map_eq_some_iff.mp e
    obtain ⟨vs, h1, h2⟩ := h
    exact ⟨vs, h1, renK_ok hf _ _ _ h2 hy⟩
  | dT xs =>
    obtain ⟨ys, hy, rfl⟩ := Option.map_eq_some_iff.mp e
    obtain ⟨vs, h1, h2⟩ := h
    exact ⟨vs, h1, renK_ok hf _ _ _ h2 hy⟩
  | ins c xs =>
    obtain ⟨ys, hy, rfl⟩ := Option.map_eq_some_iff.mp e
    obtain ⟨dx, vs, h1, h2⟩ := h
    exact ⟨dx, vs, h1, renK_ok hf _ _ _ h2 hy⟩
  | dF xs =>
    obtain ⟨ys, hy, rfl⟩ := Option.map_eq_some_iff.mp e
    obtain ⟨dx, vs, h1, h2⟩ := h
    exact ⟨dx, vs, h1, renK_ok hf _ _ _ h2 hy⟩
end
/-- the objects at m -/
def selO (m : List Nat) (hp : Hs) : List Nat → Option Hs
  | [] => some []
  | i :: t => match hp[i]? with
    | some o => match renO (idx m) o with
      | some a => match selO m hp t with
        | some b => some (a :: b)
        | none => none
      | none => none
    | none => none
theorem selO_get {m : List Nat} {hp : Hs} : ∀ {t : List Nat} {h' : Hs}, selO m hp t = some h' → h'.length = t.length ∧ ∀ (k i : Nat), t[k]? = some i → ∃ o o', hp[i]? = some o ∧ h'[k]? = some o' ∧ renO (idx m) o = some o'
  | [], h', e => by unfold selO at e; cases e; exact ⟨rfl, fun k i h => by simp at h⟩
  | j :: t, h', e => by
    unfold selO at e
    split at e
    · rename_i o ho
      split at e
      · rename_i a ha
        split at e
        · rename_i b hb
          cases e
          obtain ⟨hl, hg⟩ := selO_get hb
          refine ⟨by simp [hl], fun k i h => ?_⟩
          cases k with
          | zero => simp at h; subst h; exact ⟨o, a, ho, rfl, ha⟩
          | succ k => simpa using hg k i (by simpa using h)
        · cases e
      · cases e
    · cases e
def pickA (ρ : List Addr) (m : List Nat) : List Addr := m.map fun i => ρ.getD i 0
theorem pickA_get {ρ : List Addr} {m : List Nat} {k i : Nat} {a : Addr} (h : m[k]? = some i) (ha : ρ[i]? = some a) : (pickA ρ m)[k]? = some a := by
  unfold pickA
  rw [List.getElem?_map, h]
  simp [List.getD, ha]
theorem sel_ok {g : Gd} {ρ : List Addr} {H : Hp} {hp h' : Hs} {m : List Nat} (R : Rh g ρ H hp) (hn : m.Nodup) (e : selO m hp m = some h') :
    Rh g (pickA ρ m) H h' ∧ Moves (idx m) ρ (pickA ρ m) ∧ (∀ b ∈ pickA ρ m, b ∈ ρ) ∧ (∀ (k i : Nat), m[k]? = some i → ∃ a, ρ[i]? = some a ∧ (pickA ρ m)[k]? = some a) := by
  obtain ⟨hl, hg⟩ := selO_get e
  have at_ : ∀ (k i : Nat), m[k]? = some i → ∃ a, ρ[i]? = some a ∧ (pickA ρ m)[k]? = some a := fun k i h => by
    obtain ⟨o, o', h1, h2, h3⟩ := hg k i h
    have hi : i < ρ.length := by rw [R.len]; exact (List.getElem?_eq_some_iff.mp h1).1
    exact ⟨ρ[i], List.getElem?_eq_getElem hi, pickA_get h (List.getElem?_eq_getElem hi)⟩
  have mv : Moves (idx m) ρ (pickA ρ m) := fun i j a h1 h2 => pickA_get (idx_get h1) h2
  have back : ∀ (k : Nat) (a : Addr), (pickA ρ m)[k]? = some a → ∃ i, m[k]? = some i ∧ ρ[i]? = some a := fun k a h => by
    have hk : k < m.length := by
      have := (List.getElem?_eq_some_iff.mp h).1
      simpa [pickA] using this
    obtain ⟨b, h1, h2⟩ := at_ k m[k] (List.getElem?_eq_getElem hk)
    rw [h] at h2; cases h2
    exact ⟨m[k], List.getElem?_eq_getElem hk, h1⟩
  refine ⟨⟨by simp [pickA, hl], ?_, fun k a o' h1 h2 => ?_⟩, mv, fun b hb => ?_, at_⟩
  · rw [List.nodup_iff_pairwise_ne, List.pairwise_iff_getElem]
    intro i j hi hj hij e2
    obtain ⟨i', a1, b1⟩ := back i _ (List.getElem?_eq_getElem hi)
    obtain ⟨j', a2, b2⟩ := back j _ (List.getElem?_eq_getElem hj)
    rw [e2] at b1
    have e3 := nd_ix R.nd b1 b2
    subst e3
    have := idx_of hn a1
    rw [idx_of hn a2] at this
    cases this
    exact Nat.lt_irrefl _ hij
  · obtain ⟨i, e1, e2⟩ := back k a h1
    obtain ⟨o, o2, h3, h4, h5⟩ := hg k i e1
    rw [h2] at h4; cases h4
    exact renO_ok mv (R.obj i a o e2 h3) h5
  · obtain ⟨k, hk, e2⟩ := List.getElem_of_mem hb
    obtain ⟨i, _, e3⟩ := back k b (by rw [List.getElem?_eq_getElem hk, e2])
    exact List.mem_of_getElem? e3

/-! ### what is reached -/
mutual
def refsV : Va → List Nat
  | .ref i => [i]
  | .tup xs => refsVs xs
  | .non => []
  | .bl _ => []
  | .int _ => []
  | .str _ => []
  | .ty _ => []
  | .gl _ => []
  | .scr => []
def refsVs : List Va → List Nat
  | [] => []
  | x :: xs => refsV x ++ refsVs xs
end
def refsK {κ : Type} : List (κ × Va) → List Nat
  | [] => []
  | (_, x) :: xs => refsV x ++ refsK xs
def refsO : Ob → List Nat
  | .lst xs => refsVs xs
  | .dK kvs => refsK kvs
  | .dT kvs => refsK kvs
  | .ins _ fs => refsK fs
  | .dF kvs => refsK kvs
def reach : Nat → Hs → List Nat → List Nat → List Nat
  | 0, _, _, acc => acc
  | _ + 1, _, [], acc => acc
  | n + 1, hp, i :: t, acc => if acc.contains i then reach n hp t acc else match hp[i]? with
    | some o => reach n hp (refsO o ++ t) (acc ++ [i])
    | none => reach n hp t acc

/-! ### a call: the callee sees what it can reach, and no more -/
def bkI (m : List Nat) (n i : Nat) : Option Nat := if i < m.length then m[i]? else some (n + (i - m.length))
def mix (m : List Nat) (os : Hs) : Nat → Hs → Hs
  | _, [] => []
  | j, o :: t => (match idx m j with
    | some i => os.getD i o
    | none => o) :: mix m os (j + 1) t
def renOs (f : Nat → Option Nat) : Hs → Option Hs
  | [] => some []
  | o :: t => match renO f o with
    | some a => match renOs f t with
      | some b => some (a :: b)
      | none => none
    | none => none
theorem renOs_get {f : Nat → Option Nat} : ∀ {h h' : Hs}, renOs f h = some h' → h'.length = h.length ∧ ∀ (k : Nat) (o : Ob), h[k]? = some o → ∃ o', h'[k]? = some o' ∧ renO f o = some o'
  | [], h', e => by unfold renOs at e; cases e; exact ⟨rfl, fun k o h => by simp at h⟩
  | x :: t, h', e => by
    unfold renOs at e
    split at e
    · rename_i a ha
      split at e
      · rename_i b hb
        cases e
        obtain ⟨hl, hg⟩ := renOs_get hb
        refine ⟨by simp [hl], fun k o h => ?_⟩
        cases k with
        | zero => simp at h; subst h; exact ⟨a, rfl, ha⟩
        | succ k => simpa using hg k o (by simpa using h)
      · cases e
    · cases e
theorem mix_len (m : List Nat) (os : Hs) : ∀ (hp : Hs) (j : Nat), (mix m os j hp).length = hp.length
  | [], _ => rfl
  | _ :: t, j => by simp [mix, mix_len m os t (j + 1)]
theorem mix_get (m : List Nat) (os : Hs) : ∀ (hp : Hs) (j k : Nat), (mix m os j hp)[k]? = hp[k]?.map fun o => match idx m (j + k) with
    | some i => os.getD i o
    | none => o
  | [], _, _ => by simp [mix]
  | o :: t, j, 0 => by simp [mix]
  | o :: t, j, k + 1 => by
    have := mix_get m os t (j + 1) k
    simp only [mix, List.getElem?_cons_succ, this]
    rw [show j + 1 + k = j + (k + 1) by omega]
def backH (m : List Nat) (hp h1 : Hs) : Option Hs := match renOs (bkI m hp.length) h1 with
  | some os => some (mix m os 0 hp ++ os.drop m.length)
  | none => none
def back (m : List Nat) (hp : Hs) : Rs Va → Rs Va
  | .ok v h1 => match ren (bkI m hp.length) v with
    | some v' => match backH m hp h1 with
      | some h2 => .ok v' h2
      | none => .no
    | none => .no
  | .ex c h1 => match backH m hp h1 with
    | some h2 => .ex c h2
    | none => .no
  | .no => .no
abbrev Fn := List Va → Hs → Rs Va
def callD (F : Fn) (args : List Va) (hp : Hs) : Rs Va :=
  let m := reach 300 hp (refsVs args) []
  if nodupB m then match rens (idx m) args with
    | some args' => match selO m hp m with
      | some h0 => back m hp (F args' h0)
      | none => .no
    | none => .no
  else .no
theorem back_ok {g : Gd} {ρ ρ1 : List Addr} {H H1 : Hp} {hp h0 h1 h2 : Hs} {m : List Nat} (R : Rh g ρ H hp) (hn : m.Nodup) (e : selO m hp m = some h0) (S1 : Sp1 (pickA ρ m) H ρ1 H1) (R1 : Rh g ρ1 H1 h1) (e2 : backH m hp h1 = some h2) :
    Sp1 ρ H (ρ ++ ρ1.drop m.length) H1 ∧ Rh g (ρ ++ ρ1.drop m.length) H1 h2 ∧ Moves (bkI m hp.length) ρ1 (ρ ++ ρ1.drop m.length) := by
  obtain ⟨R0, mv, sub, at_⟩ := sel_ok R hn e
  have pl : (pickA ρ m).length = m.length := by simp [pickA]
  have S : Sp1 ρ H (ρ ++ ρ1.drop m.length) H1 := by
    refine ⟨List.prefix_append _ _, fun b hb => ?_, fun b o hb hnb => S1.keep b o hb fun z => hnb (sub b z), fun b o u hb => S1.frz b o u hb⟩
    rcases List.mem_append.mp hb with h | h
    · exact .inl h
    · rcases S1.new b (List.mem_of_mem_drop h) with q | q
      · exact .inl (sub b q)
      · exact .inr q
  have M : Moves (bkI m hp.length) ρ1 (ρ ++ ρ1.drop m.length) := fun i j a h1 h3 => by
    unfold bkI at h1
    by_cases hi : i < m.length
    · rw [if_pos hi] at h1
      obtain ⟨b, q1, q2⟩ := at_ i j h1
      have q3 := pre_get S1.pre q2
      rw [h3] at q3; cases q3
      rw [List.getElem?_append_left (List.getElem?_eq_some_iff.mp q1).1]
      exact q1
    · rw [if_neg hi] at h1
      have h1' := Option.some.inj h1
      rw [← h1', ← R.len, List.getElem?_append_right (Nat.le_add_right _ _)]
      rw [Nat.add_sub_cancel_left, List.getElem?_drop, show m.length + (i - m.length) = i by omega]
      exact h3
  refine ⟨S, ?_, M⟩
  unfold backH at e2
  split at e2
  · rename_i os hos
    cases e2
    obtain ⟨hl, hg⟩ := renOs_get hos
    have tk : ρ1.take m.length = pickA ρ m := by
      obtain ⟨c, hc⟩ := S1.pre
      rw [← hc, ← pl, List.take_left']
      rfl
    refine ⟨?_, ?_, fun j a o q1 q2 => ?_⟩
    · simp [mix_len, R.len, hl, R1.len]
    · rw [List.nodup_append]
      refine ⟨R.nd, R1.nd.sublist (List.drop_sublist _ _), fun a ha b hb e3 => ?_⟩
      subst e3
      rcases S1.new a (List.mem_of_mem_drop hb) with q | q
      · have nd := R1.nd
        rw [← List.take_append_drop m.length ρ1, tk, List.nodup_append] at nd
        exact nd.2.2 a q a hb rfl
      · have := R.mut ha
        rw [q] at this
        exact this
    · by_cases hj : j < ρ.length
      · rw [List.getElem?_append_left hj] at q1
        rw [List.getElem?_append_left (by rw [mix_len, ← R.len]; exact hj), mix_get, Nat.zero_add] at q2
        obtain ⟨o0, ho0, q2⟩ := Option.map_eq_some_iff.mp q2
        cases hi : idx m j with
        | some i =>
          rw [hi] at q2
          have hm := idx_get hi
          obtain ⟨b, c1, c2⟩ := at_ i j hm
          rw [q1] at c1; cases c1
          have c3 := pre_get S1.pre c2
          have hil : i < h1.length := by rw [← R1.len]; exact (List.getElem?_eq_some_iff.mp c3).1
          obtain ⟨o', d1, d2⟩ := hg i h1[i] (List.getElem?_eq_getElem hil)
          simp only [List.getD, d1, Option.getD_some] at q2
          subst q2
          exact renO_ok M (R1.obj i a _ c3 (List.getElem?_eq_getElem hil)) d2
        | none =>
          rw [hi] at q2
          subst q2
          have q := R.obj j a o0 q1 ho0
          have nm : a ∉ pickA ρ m := fun z => by
            obtain ⟨k, hk, e3⟩ := List.getElem_of_mem z
            have hk' : k < m.length := by rw [← pl]; exact hk
            obtain ⟨b, c1, c2⟩ := at_ k m[k] (List.getElem?_eq_getElem hk')
            rw [List.getElem?_eq_getElem hk, e3] at c2
            cases c2
            have := nd_ix R.nd c1 q1
            exact idx_none hn hi (this ▸ List.getElem_mem hk')
          cases o0 with
          | lst xs => obtain ⟨vs, e3, r⟩ := q; exact ⟨vs, S1.keep _ _ e3 nm, Rvs.step R S _ _ r⟩
          | dK xs => obtain ⟨vs, e3, r⟩ := q; exact ⟨vs, S1.keep _ _ e3 nm, Rkv.step R S _ _ r⟩
          | dT xs => obtain ⟨vs, e3, r⟩ := q; exact ⟨vs, e3.keep (fun _ z => S1.keep _ _ z nm) (fun _ _ z => SqN.step R S z), Rkv.step R S _ _ r⟩
          | ins c xs => obtain ⟨dx, vs, e3, r⟩ := q; exact ⟨dx, vs, S1.keep _ _ e3 nm, Rkv.step R S _ _ r⟩
          | dF xs => obtain ⟨dx, vs, e3, r⟩ := q; exact ⟨dx, vs, S1.keep _ _ e3 nm, Rkv.step R S _ _ r⟩
      · rw [List.getElem?_append_right (by omega)] at q1
        rw [List.getElem?_append_right (by rw [mix_len, ← R.len]; omega), mix_len, ← R.len] at q2
        rw [List.getElem?_drop] at q1 q2
        have hil : m.length + (j - ρ.length) < h1.length := by rw [← R1.len]; exact (List.getElem?_eq_some_iff.mp q1).1
        obtain ⟨o', d1, d2⟩ := hg _ h1[m.length + (j - ρ.length)] (List.getElem?_eq_getElem hil)
        rw [d1] at q2; cases q2
        exact renO_ok M (R1.obj _ a _ q1 (List.getElem?_eq_getElem hil)) d2
  · cases e2

/-! ### what a def promises -/
def spD (g : Gd) (np : Nat) (F : Fn) : Sp := fun vs H Q E => vs.length = np ∧ ∃ ρ hp xs, Rh g ρ H hp ∧ Rvs g ρ H xs vs ∧ PoE g ρ H (F xs hp) Q E
theorem sp_call {g : Gd} {np : Nat} {F : Fn} {ρ : List Addr} {H : Hp} {hp : Hs} {xs : List Va} {vs : List V} {Q : VK} {E : XK} (R : Rh g ρ H hp) (r : Rvs g ρ H xs vs) (hl : vs.length = np) (h : PoE g ρ H (callD F xs hp) Q E) : spD g np F vs H Q E := by
  unfold callD at h
  simp only at h
  generalize reach 300 hp (refsVs xs) [] = m at h
  by_cases hm : nodupB m = true
  · rw [if_pos hm] at h
    have hn := nodupB_ok hm
    split at h
    · rename_i args' ha
      split at h
      · rename_i h0 e
        obtain ⟨R0, mv, sub, at_⟩ := sel_ok R hn e
        refine ⟨hl, pickA ρ m, h0, args', R0, rens_ok mv _ _ _ r ha, ?_⟩
        cases q : F args' h0 with
        | ok v h1 =>
          intro ρ1 H1 x S1 R1 r1
          rw [q] at h
          simp only [back] at h
          split at h
          · rename_i v' hv
            split at h
            · rename_i h2 e2
              obtain ⟨S, R2, M⟩ := back_ok R hn e S1 R1 e2
              exact h _ H1 x S R2 (ren_ok M _ _ _ r1 hv)
            · exact h.elim
          · exact h.elim
        | ex c h1 =>
          intro ρ1 H1 S1 R1
          rw [q] at h
          simp only [back] at h
          split at h
          · rename_i h2 e2
            obtain ⟨S, R2, M⟩ := back_ok R hn e S1 R1 e2
            exact h _ H1 S R2
          · exact h.elim
        | no => rw [q] at h; exact h
      · exact h.elim
    · exact h.elim
  · rw [if_neg hm] at h; exact h.elim

section
variable {g : Gd} {X : Cx} {W : WX} {n : Nat}
/-- f(..) of a def of the text -/
def dCall (F : Fn) (np : Nat) (a : Da) : De := fun s h => (a s h).bind fun xs h1 => if xs.length == np then callD F xs h1 else .no
theorem e_call {f : Addr} {fd : FuncData} {ps : List Str} {k np : Nat} {F : Fn} {x : Str} {p pos : Pos} {e : Expr} {es : List Expr} {a : Da}
    (FO : FnOk X.prog X.w X.K X.mg X.base (L2.CX X.prog X.w) k f fd ps (spD g np F)) (hb : Binds X.K fd ps []) (hm : X.mg x = some (.ref f)) (hk : PySem.W.keepIn X.K (.ref f) = true) (hkn : k ≤ n)
    (ha : SA g X W n (e :: es) a) (hg : Gl X x := by rfl) (hdb : (x == ("__debug__" : Str)) = false := by decide) (he : starEach (e :: es) X.env = (false, eval e X.env) :: starEach es X.env := by rfl) (hpl : (backTo pos (starEach es X.env)).any (·.1) = false := by rfl) :
    SE g X W n (.Call (.Name x p) (e :: es) [] pos) (dCall F np a) := by
  intro C
  refine (pe_callS (E := WE W) FO (C.room.mono hkn) hg hm hk hb (fun σ => passAt C.tk σ) (ha C) hdb he hpl).imp ?_
  rintro σ H Q ⟨ρ, s, hp, R, L, h⟩
  refine aBE h R L fun vs h2 ρ2 H2 xs S2 R2 r2 L2 p2 => ?_
  by_cases hl : (vs.length == np) = true
  · rw [if_pos hl] at p2
    exact sp_call R2 r2 (by rw [← r2.length]; simpa using hl) p2
  · rw [if_neg hl] at p2; exact p2.elim
end
end Wr

set_option Elab.async false
set_option linter.all false
set_option maxRecDepth 100000
set_option maxHeartbeats 4000000
set_option autoImplicit false
namespace Wr
open PySem PySem.Spec PyProof.Rows L2

/-! ### another heap in which all tuples stand -/
structure Tst (g : Gd) (H H' : Hp) : Prop where
  tup : ∀ a vs, SqN g.K H a vs → SqN g.K H' a vs
  scr : ScrAt g H → ScrAt g H'
section
variable {g : Gd} {ρ ρ' : List Addr} {H H' : Hp} {hp : Hs}
mutual
theorem Rv.tst (T : Tst g H H') (hr : ρ <+: ρ') : ∀ (x : Va) (v : V), Rv g ρ H x v → Rv g ρ' H' x v
  | .non, _, h => by simpa only [Rv] using h
  | .bl _, _, h => by simpa only [Rv] using h
  | .int _, _, h => by simpa only [Rv] using h
  | .str _, _, h => by simpa only [Rv] using h
  | .ty _, _, h => by simpa only [Rv] using h
  | .gl _, _, h => by simpa only [Rv] using h
  | .scr, _, h => by
    simp only [Rv] at h ⊢
    exact ⟨h.1, T.scr h.2⟩
  | .ref i, _, h => by
    simp only [Rv] at h ⊢
    obtain ⟨a, e, h⟩ := h
    exact ⟨a, pre_get hr e, h⟩
  | .tup xs, _, h => by
    simp only [Rv] at h ⊢
    obtain ⟨a, vs, e, q, r⟩ := h
    exact ⟨a, vs, e, T.tup a vs q, Rvs.tst T hr xs vs r⟩
theorem Rvs.tst (T : Tst g H H') (hr : ρ <+: ρ') : ∀ (x : List Va) (v : List V), Rvs g ρ H x v → Rvs g ρ' H' x v
  | [], _, h => by simpa only [Rvs] using h
  | x :: xs, _, h => by
    simp only [Rvs] at h ⊢
    obtain ⟨v, r, e, h1, h2⟩ := h
    exact ⟨v, r, e, Rv.tst T hr x v h1, Rvs.tst T hr xs r h2⟩
end
theorem Rkv.tst {κ : Type} (T : Tst g H H') (hr : ρ <+: ρ') : ∀ (x : List (κ × Va)) (v : List (κ × V)), Rkv g ρ H x v → Rkv g ρ' H' x v
  | [], _, h => h
  | (k, x) :: xs, _, h => by
    obtain ⟨v, r, e, h1, h2⟩ := h
    exact ⟨v, r, e, Rv.tst T hr x v h1, Rkv.tst T hr xs r h2⟩
theorem Tst.upd {D : Addr} {l : List V} {o : HO} (h : H D = some (.lst l)) : Tst g H (upd H D o) := by
  refine ⟨fun a vs q => ?_, fun q => ?_⟩
  · rcases q with ⟨u, q, d⟩ | q
    · exact .inl ⟨u, by rw [upd_ne (ne_of q h (by intro z; cases z))]; exact q, d⟩
    · exact .inr q
  · rcases q with ⟨u, q⟩ | q
    · exact .inl ⟨u, by rw [upd_ne (ne_of q h (by intro z; cases z))]; exact q⟩
    · exact .inr q
/-- what is not ours is changed -/
theorem Rh.other (R : Rh g ρ H hp) {D : Addr} {o : HO} (T : Tst g H (upd H D o)) (hD : D ∉ ρ) : Rh g ρ (upd H D o) hp := by
  refine ⟨R.len, R.nd, fun i a x h1 h2 => ?_⟩
  have q := R.obj i a x h1 h2
  have hne : a ≠ D := fun e => hD (e ▸ List.mem_of_getElem? h1)
  have pr : ρ <+: ρ := List.prefix_refl _
  cases x with
  | lst xs => obtain ⟨vs, e, r⟩ := q; exact ⟨vs, by rw [upd_ne hne]; exact e, Rvs.tst T pr _ _ r⟩
  | dK xs => obtain ⟨vs, e, r⟩ := q; exact ⟨vs, by rw [upd_ne hne]; exact e, Rkv.tst T pr _ _ r⟩
  | dT xs => obtain ⟨vs, e, r⟩ := q; exact ⟨vs, e.keep (fun _ z => by rw [upd_ne hne]; exact z) T.1, Rkv.tst T pr _ _ r⟩
  | ins c xs => obtain ⟨dx, vs, e, r⟩ := q; exact ⟨dx, vs, by rw [upd_ne hne]; exact e, Rkv.tst T pr _ _ r⟩
  | dF xs => obtain ⟨dx, vs, e, r⟩ := q; exact ⟨dx, vs, by rw [upd_ne hne]; exact e, Rkv.tst T pr _ _ r⟩
/-- what stands there becomes ours -/
theorem Rh.take (R : Rh g ρ H hp) {D : Addr} {l : List V} {xs : List Va} (hD : D ∉ ρ) (h : H D = some (.lst l)) (r : Rvs g ρ H xs l) : Rh g (ρ ++ [D]) H (hp ++ [.lst xs]) := by
  have T : Tst g H H := ⟨fun _ _ q => q, fun q => q⟩
  have pr : ρ <+: ρ ++ [D] := List.prefix_append _ _
  refine ⟨by simp [R.len], ?_, fun i a x h1 h2 => ?_⟩
  · rw [List.nodup_append]
    refine ⟨R.nd, by simp, fun a ha b hb e => ?_⟩
    obtain rfl := List.mem_singleton.mp hb
    subst e; exact hD ha
  · by_cases hi : i < ρ.length
    · rw [List.getElem?_append_left hi] at h1
      rw [List.getElem?_append_left (by rw [← R.len]; exact hi)] at h2
      have q := R.obj i a x h1 h2
      cases x with
      | lst xs => obtain ⟨vs, e, r⟩ := q; exact ⟨vs, e, Rvs.tst T pr _ _ r⟩
      | dK xs => obtain ⟨vs, e, r⟩ := q; exact ⟨vs, e, Rkv.tst T pr _ _ r⟩
      | dT xs => obtain ⟨vs, e, r⟩ := q; exact ⟨vs, e, Rkv.tst T pr _ _ r⟩
      | ins c xs => obtain ⟨dx, vs, e, r⟩ := q; exact ⟨dx, vs, e, Rkv.tst T pr _ _ r⟩
      | dF xs => obtain ⟨dx, vs, e, r⟩ := q; exact ⟨dx, vs, e, Rkv.tst T pr _ _ r⟩
    · have hi2 : i = ρ.length := by
        have := (List.getElem?_eq_some_iff.mp h1).1
        simp at this; omega
      subst hi2
      simp at h1
      subst h1
      rw [R.len] at h2
      simp at h2
      subst h2
      exact ⟨l, h, Rvs.tst T pr _ _ r⟩
end

/-! ### tests -/
section
variable {g : Gd} {X : Cx} {W : WX} {n : Nat} {a b : Expr} {rest : List Expr} {pos : Pos}
def dNot (f : Dt) : Dt := fun s h => (f s h).bind fun c h1 => .ok (!c) h1
theorem t_not {f : Dt} (h : ST g X W n a f) : ST g X W n (.UnaryOp .Not a pos) (dNot f) := by
  intro C
  refine (pt_not (h C)).imp ?_
  rintro σ H Q ⟨ρ, s, hp, R, L, h⟩
  exact tBT h R L fun v h1 ρ1 H1 S1 R1 L1 p1 => p1 ρ1 H1 (.refl _ _) R1
def dAnd (f k : Dt) : Dt := fun s h => (f s h).bind fun c h1 => match c with
  | true => k s h1
  | false => .ok false h1
def dOr (f k : Dt) : Dt := fun s h => (f s h).bind fun c h1 => match c with
  | true => .ok true h1
  | false => k s h1
theorem w_and1 {f : Dt} (h : ST g X W n a f) : SW g X W n (.BoolOp .And [a] pos) f := fun C => pw_and1 (h C)
theorem w_or1 {f : Dt} (h : ST g X W n a f) : SW g X W n (.BoolOp .Or [a] pos) f := fun C => pw_or1 (h C)
theorem w_and {f k : Dt} (h : ST g X W n a f) (h' : SW g X W n (.BoolOp .And (b :: rest) pos) k) : SW g X W n (.BoolOp .And (a :: b :: rest) pos) (dAnd f k) := by
  intro C
  refine (pw_and (h C) (h' C)).imp ?_
  rintro σ H Q ⟨ρ, s, hp, R, L, h⟩
  refine tBT h R L fun v h1 ρ1 H1 S1 R1 L1 p1 => ?_
  cases v with
  | true => exact ⟨ρ1, s, h1, R1, L1, p1⟩
  | false => exact p1 ρ1 H1 (.refl _ _) R1
theorem w_or {f k : Dt} (h : ST g X W n a f) (h' : SW g X W n (.BoolOp .Or (b :: rest) pos) k) : SW g X W n (.BoolOp .Or (a :: b :: rest) pos) (dOr f k) := by
  intro C
  refine (pw_or (h C) (h' C)).imp ?_
  rintro σ H Q ⟨ρ, s, hp, R, L, h⟩
  refine tBT h R L fun v h1 ρ1 H1 S1 R1 L1 p1 => ?_
  cases v with
  | true => exact p1 ρ1 H1 (.refl _ _) R1
  | false => exact ⟨ρ1, s, h1, R1, L1, p1⟩
theorem t_bool {e : Expr} {f : Dt} (h : SW g X W n e f) : ST g X W n e f := fun C => (h C).pt
theorem t_chain {op op' : CmpOp} {c : Expr} {fa fb fc : De} {r r' : R2} {k k' : K2} (ho : OpC g op r) (ho' : OpC g op' r') (pk : P2 g r k) (pk' : P2 g r' k') (ha : SE g X W n a fa) (hb : SE g X W n b fb) (hc : SE g X W n c fc)
    (hm : lastMarks [op, op'] [b, c] = false := by rfl) : ST g X W n (.Compare a [op, op'] [b, c] pos) (dTest (dChain k k' fa fb fc)) :=
  fun C => (pt_chain (ho X C.K C.units) (ho' X C.K C.units) (ha C) (hb C) (hc C) hm).imp fun _ _ _ h => chain_imp pk pk' (test_imp h)
theorem e_chain {op op' : CmpOp} {c : Expr} {fa fb fc : De} {r r' : R2} {k k' : K2} (ho : OpC g op r) (ho' : OpC g op' r') (pk : P2 g r k) (pk' : P2 g r' k') (ha : SE g X W n a fa) (hb : SE g X W n b fb) (hc : SE g X W n c fc)
    (hm : lastMarks [op, op'] [b, c] = false := by rfl) : SE g X W n (.Compare a [op, op'] [b, c] pos) (dChain k k' fa fb fc) :=
  fun C => (pe_chain (ho X C.K C.units) (ho' X C.K C.units) (ha C) (hb C) (hc C) hm).imp fun _ _ _ h => chain_imp pk pk' h
/-! .. as values -/
def dAndV (f k : De) : De := fun s h => (f s h).bind fun c h1 => match c with
  | .bl true => k s h1
  | .bl false => .ok (.bl false) h1
  | _ => .no
def dOrV (f k : De) : De := fun s h => (f s h).bind fun c h1 => match c with
  | .bl true => .ok (.bl true) h1
  | .bl false => k s h1
  | _ => .no
def dNotV (f : De) : De := fun s h => (f s h).bind fun c h1 => match c with
  | .bl c => .ok (.bl (!c)) h1
  | _ => .no
theorem e_one {op : BoolOp} {f : De} (h : SE g X W n a f) : SE g X W n (.BoolOp op [a] pos) f := fun C => pe_one (h C)
theorem e_and {f k : De} (h : SE g X W n a f) (h' : SE g X W n (.BoolOp .And (b :: rest) pos) k) : SE g X W n (.BoolOp .And (a :: b :: rest) pos) (dAndV f k) := by
  intro C
  refine (pe_and (h C) (h' C)).imp ?_
  rintro σ H Q ⟨ρ, s, hp, R, L, h⟩
  refine bE h R L fun v h1 ρ1 H1 x S1 R1 r1 L1 p1 => ?_
  cases v with
  | bl c =>
    simp only [Rv] at r1
    refine ⟨c, r1, ?_⟩
    cases c with
    | true => exact ⟨ρ1, s, h1, R1, L1, p1⟩
    | false => exact p1 ρ1 H1 _ (.refl _ _) R1 (by simp only [Rv])
  | _ => exact p1.elim
theorem e_or {f k : De} (h : SE g X W n a f) (h' : SE g X W n (.BoolOp .Or (b :: rest) pos) k) : SE g X W n (.BoolOp .Or (a :: b :: rest) pos) (dOrV f k) := by
  intro C
  refine (pe_or (h C) (h' C)).imp ?_
  rintro σ H Q ⟨ρ, s, hp, R, L, h⟩
  refine bE h R L fun v h1 ρ1 H1 x S1 R1 r1 L1 p1 => ?_
  cases v with
  | bl c =>
    simp only [Rv] at r1
    refine ⟨c, r1, ?_⟩
    cases c with
    | true => exact p1 ρ1 H1 _ (.refl _ _) R1 (by simp only [Rv])
    | false => exact ⟨ρ1, s, h1, R1, L1, p1⟩
  | _ => exact p1.elim
theorem e_not {f : De} (h : SE g X W n a f) : SE g X W n (.UnaryOp .Not a pos) (dNotV f) := by
  intro C
  refine (pe_not (h C)).imp ?_
  rintro σ H Q ⟨ρ, s, hp, R, L, h⟩
  refine bE h R L fun v h1 ρ1 H1 x S1 R1 r1 L1 p1 => ?_
  cases v with
  | bl c =>
    simp only [Rv] at r1
    exact ⟨c, r1, p1 ρ1 H1 _ (.refl _ _) R1 (by simp only [Rv])⟩
  | _ => exact p1.elim
def dIf (t : Dt) (f k : De) : De := fun s h => (t s h).bind fun c h1 => match c with
  | true => f s h1
  | false => k s h1
theorem e_if {c : Expr} {t : Dt} {f k : De} (hc : ST g X W n c t) (h : SE g X W n a f) (h' : SE g X W n b k) : SE g X W n (.IfExp c a b pos) (dIf t f k) := by
  intro C
  refine (pe_ifExp (hc C) (h C) (h' C)).imp ?_
  rintro σ H Q ⟨ρ, s, hp, R, L, h⟩
  refine tBE h R L fun v h1 ρ1 H1 S1 R1 L1 p1 => ?_
  cases v with
  | true => exact ⟨ρ1, s, h1, R1, L1, p1⟩
  | false => exact ⟨ρ1, s, h1, R1, L1, p1⟩

/-! ### statements -/
variable {st : Stmt} {sts : List Stmt} {e : Expr}
def dNx : Ds := fun s h => .nx s h
def dSeq (f k : Ds) : Ds := fun s h => match f s h with
  | .nx s1 h1 => k s1 h1
  | .rt v h1 => .rt v h1
  | .bk s1 h1 => .bk s1 h1
  | .ct s1 h1 => .ct s1 h1
  | .ex c s1 h1 => .ex c s1 h1
  | .no => .no
theorem b_nil : SB g X W n [] dNx := fun _ => pss_nil.imp fun D σ H ⟨ρ, s, hp, R, L, h⟩ => h ρ H σ (.refl _ _) R L
theorem b_cons {f k : Ds} (h : SS g X W n st f) (h' : SB g X W n sts k) : SB g X W n (st :: sts) (dSeq f k) := by
  intro C
  refine (pss_cons (h C) (h' C)).imp ?_
  rintro D σ H ⟨ρ, s, hp, R, L, h⟩
  refine ⟨ρ, s, hp, R, L, ?_⟩
  unfold dSeq at h
  cases q : f s hp with
  | nx s1 h1 => rw [q] at h; exact fun ρ1 H1 σ1 S1 R1 L1 => ⟨ρ1, s1, h1, R1, L1, PoS.at h S1⟩
  | rt v h1 => rw [q] at h; exact h
  | bk s1 h1 => rw [q] at h; exact h
  | ct s1 h1 => rw [q] at h; exact h
  | ex c s1 h1 => rw [q] at h; exact h
  | no => rw [q] at h; exact h
theorem b_one {f : Ds} (h : SS g X W n st f) : SB g X W n [st] f := fun C => pss_one (h C)
def dNo : Ds := fun _ _ => .no
theorem s_never : SS g X W n st dNo := fun _ => ps_never.imp fun D σ H ⟨ρ, s, hp, R, L, h⟩ => h
theorem s_pass : SS g X W n (.Pass pos) dNx := fun _ => ps_pass.imp fun D σ H ⟨ρ, s, hp, R, L, h⟩ => h ρ H σ (.refl _ _) R L
def dBk : Ds := fun s h => .bk s h
def dCt : Ds := fun s h => .ct s h
theorem s_break : SS g X W n (.Break pos) dBk := fun _ => ps_break.imp fun D σ H ⟨ρ, s, hp, R, L, h⟩ => h ρ H σ (.refl _ _) R L
theorem s_cont : SS g X W n (.Continue pos) dCt := fun _ => ps_continue.imp fun D σ H ⟨ρ, s, hp, R, L, h⟩ => h ρ H σ (.refl _ _) R L
def dExpr (f : De) : Ds := fun s h => (f s h).bindS s fun _ h1 => .nx s h1
theorem s_expr {f : De} (h : SE g X W n e f) (hs : swapsWith e none pos.line X.env = pure false := by rfl) : SS g X W n (.Expr e pos) (dExpr f) := by
  intro C
  refine (ps_expr (h C) hs).imp ?_
  rintro D σ H ⟨ρ, s, hp, R, L, h⟩
  exact bS h R L fun v h1 ρ1 H1 x S1 R1 r1 L1 p1 => p1 ρ1 H1 σ (.refl _ _) R1 L1
def dRet (f : De) : Ds := fun s h => (f s h).bindS s fun v h1 => .rt v h1
theorem s_ret {f : De} (h : SE g X W n e f) : SS g X W n (.Return (some e) pos) (dRet f) := by
  intro C
  refine (ps_ret (h C)).imp ?_
  rintro D σ H ⟨ρ, s, hp, R, L, h⟩
  exact bS h R L fun v h1 ρ1 H1 x S1 R1 r1 L1 p1 => p1 ρ1 H1 x (.refl _ _) R1 r1
def dIfS (t : Dt) (f k : Ds) : Ds := fun s h => (t s h).bindS s fun c h1 => match c with
  | true => f s h1
  | false => k s h1
theorem s_if {c : Expr} {x y : List Stmt} {t : Dt} {f k : Ds} (hc : ST g X W n c t) (h : SB g X W n x f) (h' : SB g X W n y k) : SS g X W n (.If c x y pos) (dIfS t f k) := by
  intro C
  refine (ps_if (hc C) (h C) (h' C)).imp ?_
  rintro D σ H ⟨ρ, s, hp, R, L, h⟩
  refine tBS h R L fun v h1 ρ1 H1 S1 R1 L1 p1 => ?_
  cases v with
  | true => exact ⟨ρ1, s, h1, R1, L1, p1⟩
  | false => exact ⟨ρ1, s, h1, R1, L1, p1⟩
def dSet (i : Nat) (f : De) : Ds := fun s h => (f s h).bindS s fun v h1 => .nx (s.set i (some v)) h1
theorem set_imp {i : Nat} {f : De} {D : Ends} {σ : L2.St} {H : Hp} (h : tS g W (dSet i f) D σ H) : tAsg (tE g W f) (gName i) D σ H := by
  obtain ⟨ρ, s, hp, R, L, h⟩ := h
  exact bS h R L fun v h1 ρ1 H1 x S1 R1 r1 L1 p1 => p1 ρ1 H1 _ (.refl _ _) R1 (L1.set i r1)
theorem s_set (i : Nat) {x : Str} {f : De} {pos' : Pos} (he : SE g X W n e f) (hi : X.N[i]? = some x := by rfl) (hx : Loc X.env.scope x := by first | exact .inl rfl | exact .inr rfl) (hs : swapsWith e (some (.Name x pos')) pos.line X.env = pure false := by rfl)
    (hf : X.fn x = true ∨ X.env.scope.names.lookup x = some .local := by first | exact .inl rfl | exact .inr rfl) : SS g X W n (.Assign [.Name x pos'] e pos) (dSet i f) :=
  fun C => (ps_set C.nd hi hx (he C) hs hf).imp fun _ _ _ h => set_imp h
/-- a, b = x, y of plain local names -/
def dPar (is : List Nat) (f : Da) : Ds := fun s h => (f s h).bindS s fun vs h1 => match is, vs with
  | [i, j], [v, w] => .nx ((s.set i (some v)).set j (some w)) h1
  | _, _ => .no
theorem s_par {x y : Str} {f : Da} {px py pt pt2 : Pos} {kt k2 : Nat} (i j : Nat) (ha : SA g X W n [a, b] f) (hi : X.N[i]? = some x := by rfl) (hj : X.N[j]? = some y := by rfl) (hij : i ≠ j := by decide)
    (hx : X.env.scope.names.lookup x = some .local := by rfl) (hy : X.env.scope.names.lookup y = some .local := by rfl)
    (hw : swappedStores [.Tuple [.Name x px, .Name y py] kt pt] (.Tuple [a, b] k2 pt2) X.env = pure (some [x, y]) := by rfl)
    (hs : swapsWithSole [.Tuple [.Name x px, .Name y py] kt pt] (.Tuple [a, b] k2 pt2) pos.line X.env = pure false := by rfl) :
    SS g X W n (.Assign [.Tuple [.Name x px, .Name y py] kt pt] (.Tuple [a, b] k2 pt2) pos) (dPar [i, j] f) := by
  intro C
  refine (ps_par C.calm C.nd hi hj hij hx hy (ha C) hw hs).imp ?_
  rintro D σ H ⟨ρ, s, hp, R, L, h⟩
  refine aBS h R L fun vs h1 ρ1 H1 xs S1 R1 r1 L1 p1 => ?_
  match vs, xs, r1 with
  | [v, w], [v', w'], r1 =>
    have q := r1.cons_inv
    have q2 := q.2.cons_inv
    exact ⟨v', w', rfl, p1 ρ1 H1 _ (.refl _ _) R1 ((L1.set i q.1).set j q2.1)⟩
  | [], _, _ => exact p1.elim
  | [_], _, _ => exact p1.elim
  | _ :: _ :: _ :: _, _, _ => exact p1.elim
  | [_, _], [], r1 => have := r1.length; simp at this
  | [_, _], [_], r1 => have := r1.length; simp at this
  | [_, _], _ :: _ :: _ :: _, r1 => have := r1.length; simp at this
end
end Wr

set_option Elab.async false
set_option linter.all false
set_option maxRecDepth 100000
set_option maxHeartbeats 4000000
set_option autoImplicit false
namespace Wr
open PySem PySem.Spec PyProof.Rows L2

/-! ### targets: names, tuples of names -/
section
variable (g : Gd) (ρ : List Addr) (H : Hp)
/-- what an iterator yields: a value of ours, or (b) a tuple that only is to be taken apart -/
def Ry : Bool → Va → V → Prop
  | false, x, v => Rv g ρ H x v
  | true, x, v => Rv g ρ H x v ∨ ∃ xs vs T, x = .tup xs ∧ v = .ref T ∧ SqT g.K H T vs ∧ Rvs g ρ H xs vs
end
theorem Ry.of {g : Gd} {ρ : List Addr} {H : Hp} {b : Bool} {x : Va} {v : V} (h : Rv g ρ H x v) : Ry g ρ H b x v := by
  cases b with
  | false => exact h
  | true => exact .inl h
inductive Tg where
  | nm (i : Nat) | tp (is : List Nat)
def setEach : List Nat → List Va → Sg → Option Sg
  | [], [], s => some s
  | i :: is, x :: xs, s => setEach is xs (s.set i (some x))
  | _, _, _ => none
def setT (t : Tg) (x : Va) (s : Sg) (h : Hs) : Option Sg := match t with
  | .nm i => some (s.set i (some x))
  | .tp is => match x with
    | .tup xs => setEach is xs s
    | .ref r => match h[r]? with
      | some (.lst xs) => setEach is xs s
      | _ => none
    | _ => none
def Tg.slots : Tg → List Nat
  | .nm i => [i]
  | .tp is => is
def Agr (is : List Nat) (σ σ' : L2.St) : Prop := ∀ vs : List Nat, (∀ i ∈ is, i ∈ vs) → wipe σ' vs = wipe σ vs
theorem wipe_out {σ : L2.St} {i : Nat} {x : Option V} : ∀ {vs : List Nat}, i ∉ vs → wipe (σ.set i x) vs = (wipe σ vs).set i x
  | [], _ => rfl
  | v :: vs, h => by
    unfold wipe
    rw [wipe_out (fun z => h (List.mem_cons_of_mem _ z)), List.set_comm]
    intro e; exact h (by rw [e]; exact List.mem_cons_self)
theorem wipe_set {σ : L2.St} {i : Nat} {x : Option V} : ∀ {vs : List Nat}, i ∈ vs → wipe (σ.set i x) vs = wipe σ vs
  | v :: vs, h => by
    unfold wipe
    by_cases hv : i ∈ vs
    · rw [wipe_set hv]
    · rcases List.mem_cons.mp h with e | e
      · subst e
        rw [wipe_out hv, List.set_set]
      · exact absurd e hv
theorem Agr.set (σ : L2.St) (i : Nat) (x : Option V) : Agr [i] σ (σ.set i x) := fun vs h => wipe_set (h i (by simp))
theorem Agr.refl (is : List Nat) (σ : L2.St) : Agr is σ σ := fun _ _ => rfl
theorem wipe_comm_none {σ : L2.St} {i : Nat} : ∀ {vs : List Nat}, wipe (σ.set i none) vs = (wipe σ vs).set i none
  | [] => rfl
  | v :: vs => by
    unfold wipe
    rw [wipe_comm_none]
    by_cases e : i = v
    · subst e; rfl
    · rw [List.set_comm _ _ e]
theorem wipe_wipe (σ : L2.St) : ∀ (us vs : List Nat), (∀ i ∈ us, i ∈ vs) → wipe (wipe σ us) vs = wipe σ vs
  | [], _, _ => rfl
  | v :: us, vs, h => by
    show wipe ((wipe σ us).set v none) vs = _
    rw [wipe_set (h v (by simp)), wipe_wipe σ us vs fun i hi => h i (List.mem_cons_of_mem _ hi)]
def wipeS (s : Sg) : List Nat → Sg
  | [] => s
  | v :: vs => (wipeS s vs).set v none
theorem Rsl.none {g : Gd} {ρ : List Addr} {H : Hp} {s : Sg} {σ : L2.St} (h : Rsl g ρ H s σ) (i : Nat) : Rsl g ρ H (s.set i none) (σ.set i none) := by
  refine ⟨by simpa using h.len, fun j y e => ?_⟩
  by_cases hj : i = j
  · subst hj
    by_cases hi : i < s.length
    · rw [List.getElem?_set_self hi] at e; cases e
    · rw [List.getElem?_eq_none (by simpa using hi)] at e; cases e
  · rw [List.getElem?_set_ne hj] at e ⊢
    exact h.at_ j y e
theorem Rsl.wipe {g : Gd} {ρ : List Addr} {H : Hp} {s : Sg} {σ : L2.St} (h : Rsl g ρ H s σ) : ∀ vs : List Nat, Rsl g ρ H (wipeS s vs) (wipe σ vs)
  | [] => h
  | v :: vs => (Rsl.wipe h vs).none v
def tG (g : Gd) (b : Bool) (t : Tg) : TG := fun v σ H Q => ∃ ρ s hp x s', Rh g ρ H hp ∧ Rsl g ρ H s σ ∧ Ry g ρ H b x v ∧ setT t x s hp = some s' ∧ ∀ σ', Rsl g ρ H s' σ' → Agr t.slots σ σ' → Q σ' H
def SG (g : Gd) (X : Cx) (b : Bool) (tg : Expr) (t : Tg) : Prop := X.K = g.K → X.calm = true → X.N.Nodup → PG X tg (tG g b t)
theorem _root_.L2.PG.imp {X : Cx} {e : Expr} {t t' : TG} (h : PG X e t) (q : ∀ v σ H Q, t' v σ H Q → t v σ H Q) : PG X e t' := ⟨fun pins s σ H v u Q I r w => h.run pins s σ H v u Q I r (q _ _ _ _ w)⟩
theorem _root_.L2.PG.or {X : Cx} {e : Expr} {t t' : TG} (h : PG X e t) (h' : PG X e t') : PG X e (fun v σ H Q => t v σ H Q ∨ t' v σ H Q) := ⟨fun pins s σ H v u Q I r w => by
  rcases w with w | w
  · exact h.run pins s σ H v u Q I r w
  · exact h'.run pins s σ H v u Q I r w⟩
section
variable {g : Gd} {X : Cx} {W : WX} {n : Nat} {pos : Pos}
theorem g_name (i : Nat) {x : Str} (hi : X.N[i]? = some x := by rfl) (hx : Loc X.env.scope x := by first | exact .inl rfl | exact .inr rfl) (hf : X.fn x = true ∨ X.env.scope.names.lookup x = some .local := by first | exact .inl rfl | exact .inr rfl) : SG g X false (.Name x pos) (.nm i) := by
  intro hK hc hN
  refine (pg_name hN hi hx hf).imp ?_
  rintro v σ H Q ⟨ρ, s, hp, x, s', R, L, r, e, h⟩
  unfold setT at e
  cases e
  exact h _ (L.set i r) (Agr.set σ i _)
/-- names one after another -/
inductive SNs (X : Cx) : List Expr → List Nat → Prop
  | nil : SNs X [] []
  | cons {x : Str} {pos : Pos} {i : Nat} {es : List Expr} {is : List Nat} (hi : X.N[i]? = some x) (hx : Loc X.env.scope x) (hf : X.fn x = true ∨ X.env.scope.names.lookup x = some .local) (h : SNs X es is) : SNs X (.Name x pos :: es) (i :: is)
theorem sn_cons (i : Nat) {x : Str} {es : List Expr} {is : List Nat} (h : SNs X es is) (hi : X.N[i]? = some x := by rfl) (hx : Loc X.env.scope x := by first | exact .inl rfl | exact .inr rfl)
    (hf : X.fn x = true ∨ X.env.scope.names.lookup x = some .local := by first | exact .inl rfl | exact .inr rfl) : SNs X (.Name x pos :: es) (i :: is) := .cons hi hx hf h
theorem SNs.pgs (hN : X.N.Nodup) : ∀ {es : List Expr} {is : List Nat}, SNs X es is → PGs X es (fun vs σ H Q => ∃ ρ s xs s', Rsl g ρ H s σ ∧ Rvs g ρ H xs vs ∧ setEach is xs s = some s' ∧ ∀ σ', Rsl g ρ H s' σ' → Agr is σ σ' → Q σ' H)
  | _, _, .nil => by
    refine ⟨fun pins s σ H vs us Q I r h => ?_⟩
    obtain ⟨ρ, s0, xs, s', L, rv, e, h⟩ := h
    cases xs with
    | nil =>
      simp only [Rvs] at rv
      subst rv
      unfold setEach at e
      cases e
      exact pgs_nil.run pins s σ H [] us Q I r ⟨rfl, h σ L (Agr.refl _ _)⟩
    | cons _ _ => unfold setEach at e; cases e
  | _, _, .cons (i := i) (is := is) hi hx hf hr => by
    refine ⟨fun pins s σ H vs us Q I r h => ?_⟩
    obtain ⟨ρ, s0, xs, s', L, rv, e, h⟩ := h
    cases xs with
    | nil => unfold setEach at e; cases e
    | cons x xs =>
      simp only [Rvs] at rv
      obtain ⟨v, vr, rfl, r1, r2⟩ := rv
      unfold setEach at e
      refine (pgs_cons (pg_name hN hi hx hf) (SNs.pgs hN hr)).run pins s σ H _ us Q I r ⟨v, vr, rfl, ?_⟩
      exact ⟨ρ, _, xs, s', L.set i r1, r2, e, fun σ' L' A => h σ' L' fun ws hw => (A ws fun j hj => hw j (List.mem_cons_of_mem _ hj)).trans (wipe_set (hw i (by simp)))⟩
theorem SNs.len : ∀ {es : List Expr} {is : List Nat}, SNs X es is → (assignEach es X.env).length = is.length ∧ (assignEach es X.env).findIdx? (·.1) = none
  | _, _, .nil => ⟨rfl, rfl⟩
  | _, _, .cons (es := es) hi hx hf hr => by
    obtain ⟨h1, h2⟩ := SNs.len hr
    refine ⟨?_, ?_⟩
    · simp [assignEach, h1]
    · simp [assignEach, h2, List.findIdx?_cons]
theorem setEach_len : ∀ {is : List Nat} {xs : List Va} {s s' : Sg}, setEach is xs s = some s' → xs.length = is.length
  | [], [], _, _, _ => rfl
  | [], _ :: _, _, _, h => by unfold setEach at h; cases h
  | _ :: _, [], _, _, h => by unfold setEach at h; cases h
  | _ :: is, _ :: xs, _, _, h => by
    unfold setEach at h
    simp [setEach_len h]
theorem g_tup {b : Bool} {es : List Expr} {is : List Nat} {k : Nat} (h : SNs X es is) : SG g X b (.Tuple es k pos) (.tp is) := by
  intro hK hc hN
  obtain ⟨h1, h2⟩ := h.len
  refine (PG.or (pg_tup hc (SNs.pgs (g := g) hN h) h1 h2) (pg_lst hc (SNs.pgs (g := g) hN h) h1 h2)).imp ?_
  rintro v σ H Q ⟨ρ, s, hp, x, s', R, L, r, e, q⟩
  rw [hK]
  have tup : ∀ (xs : List Va) (vs : List V) (T : Addr), setEach is xs s = some s' → SqT g.K H T vs → Rvs g ρ H xs vs → gTup g.K is.length (fun vs σ H Q => ∃ ρ s xs s', Rsl g ρ H s σ ∧ Rvs g ρ H xs vs ∧ setEach is xs s = some s' ∧ ∀ σ', Rsl g ρ H s' σ' → Agr is σ σ' → Q σ' H) (.ref T) σ H Q := fun xs vs T e ht rv =>
    ⟨T, vs, rfl, ht, by rw [← rv.length]; exact setEach_len e, ρ, s, xs, s', L, rv, e, q⟩
  have main : Rv g ρ H x v ∨ (∃ xs vs T, x = .tup xs ∧ v = .ref T ∧ SqT g.K H T vs ∧ Rvs g ρ H xs vs) := by
    cases b with
    | false => exact .inl r
    | true => exact r
  rcases main with r | ⟨xs, vs, T, rfl, rfl, ht, rv⟩
  · cases x with
    | tup xs =>
      simp only [Rv] at r
      obtain ⟨a, vs, rfl, ht, rv⟩ := r
      exact .inl (tup xs vs a e ht.sqT rv)
    | ref i =>
      simp only [Rv] at r
      obtain ⟨a, ha, rfl⟩ := r
      unfold setT at e
      simp only at e
      split at e
      · rename_i xs hx
        obtain ⟨vs, e2, rv⟩ := R.obj i a _ ha hx
        exact .inr ⟨a, vs, rfl, .inl (.inl e2), by rw [← rv.length]; exact setEach_len e, ρ, s, xs, s', L, rv, e, q⟩
      · cases e
    | _ => exact nomatch e
  · exact .inl (tup xs vs T e ht rv)
/-- a, b = e -/
def dAsgT (t : Tg) (f : De) : Ds := fun s h => (f s h).bindS s fun v h1 => match setT t v s h1 with
  | some s' => .nx s' h1
  | none => .no
theorem s_asgT {tg e : Expr} {t : Tg} {f : De} (he : SE g X W n e f) (hg : SG g X false tg t) (hs : swapsWithSole [tg] e pos.line X.env = pure false := by rfl) (hw : swappedStores [tg] e X.env = pure none := by rfl)
    (h1 : (assignEach [tg] X.env).map (·.2) = [assign tg X.env] := by rfl) : SS g X W n (.Assign [tg] e pos) (dAsgT t f) := by
  intro C
  refine (ps_asg (he C) (hg C.K C.calm C.nd) hs hw h1).imp ?_
  rintro D σ H ⟨ρ, s, hp, R, L, h⟩
  refine bS h R L fun v h1 ρ1 H1 x S1 R1 r1 L1 p1 => ?_
  cases q : setT t v s h1 with
  | none => rw [q] at p1; exact p1.elim
  | some s' =>
    rw [q] at p1
    exact ⟨ρ1, s, h1, v, s', R1, L1, r1, q, fun σ' L' _ => p1 ρ1 H1 σ' (.refl _ _) R1 L'⟩
end

/-! ### what is walked -/
inductive It' where
  | tup (xs : List Va) | lst (r : Nat) | rng (lo : Int) (n : Nat) | str (x : List Nat) | zip (a b : It') | enum (a : It') | keys (r : Nat)
def kVa : Key → Va
  | .inl i => .int i
  | .inr x => .str x
def itLen : It' → Hs → Nat
  | .tup xs, _ => xs.length
  | .lst r, h => match h[r]? with
    | some (.lst xs) => xs.length
    | _ => 0
  | .rng _ n, _ => n
  | .str x, _ => x.length
  | .zip a b, h => min (itLen a h) (itLen b h)
  | .enum a, h => itLen a h
  | .keys r, h => match h[r]? with
    | some (.dK xs) => xs.length
    | _ => 0
def nxt : It' → Nat → Hs → Option (Option Va)
  | .tup xs, i, _ => some xs[i]?
  | .lst r, i, h => match h[r]? with
    | some (.lst xs) => some xs[i]?
    | _ => none
  | .rng lo n, i, _ => some (if i < n then some (.int (lo + (i : Int))) else none)
  | .str x, i, _ => some (x[i]?.map fun c => .str ⟨#[c]⟩)
  | .zip a b, i, h => if i ≤ itLen a h && i ≤ itLen b h then match nxt a i h with
      | none => none
      | some oa => match nxt b i h with
        | none => none
        | some ob => match oa, ob with
          | some x, some y => some (some (.tup [x, y]))
          | _, _ => some none
    else none
  | .enum a, i, h => if i ≤ itLen a h then match nxt a i h with
      | some (some x) => some (some (.tup [.int (i : Int), x]))
      | some none => some none
      | none => none
    else none
  | .keys r, i, h => match h[r]? with
    | some (.dK kvs) => some (kvs[i]?.map fun kv => kVa kv.1)
    | _ => none
/-- J goes as it tells, from here on -/
def Rit (g : Gd) (ρ : List Addr) (H : Hp) (b : Bool) (it : It') (J : It) : Prop := ∀ (i : Nat) (ρ1 : List Addr) (H1 : Hp) (hp1 : Hs) (o : Option Va), Sp1 ρ H ρ1 H1 → Rh g ρ1 H1 hp1 → nxt it i hp1 = some o → match o with
  | none => J.stop i H1
  | some v => J.go i H1 ∧ ∀ x H2, J.yld i H1 x H2 → Sp1 ρ1 H1 ρ1 H2 ∧ Rh g ρ1 H2 hp1 ∧ Ry g ρ1 H2 b v x
abbrev Di := Sg → Hs → Rs It'
def PoI (g : Gd) (b : Bool) (ρ : List Addr) (H : Hp) (r : Rs It') (Rr : It → Hp → Prop) (E : XK) : Prop := match r with
  | .ok it h => ∀ ρ' H' J, Sp1 ρ H ρ' H' → Rh g ρ' H' h → Rit g ρ' H' b it J → Rr J H'
  | .ex c h => ∀ ρ' H', Sp1 ρ H ρ' H' → Rh g ρ' H' h → E (.ref (g.G c)) none H'
  | .no => False
def tI (g : Gd) (W : WX) (b : Bool) (f : Di) : TI := fun σ H Rr => ∃ ρ s hp, Rh g ρ H hp ∧ Rsl g ρ H s σ ∧ PoI g b ρ H (f s hp) Rr (fun c d H' => W c d σ H')
def SI (g : Gd) (X : Cx) (W : WX) (n : Nat) (b : Bool) (tg e : Expr) (f : Di) : Prop := Cz g X W n → PI X tg e (tI g W b f)
theorem _root_.L2.PI.imp {X : Cx} {tg e : Expr} {t t' : TI} (h : PI X tg e t) (q : ∀ σ H R, t' σ H R → t σ H R) : PI X tg e t' := ⟨fun pins s σ H R I w => h.run pins s σ H R I (q _ _ _ w)⟩
theorem _root_.L2.PI.or {X : Cx} {tg e : Expr} {t t' : TI} (h : PI X tg e t) (h' : PI X tg e t') : PI X tg e (fun σ H R => t σ H R ∨ t' σ H R) := ⟨fun pins s σ H R I w => by
  rcases w with w | w
  · exact h.run pins s σ H R I w
  · exact h'.run pins s σ H R I w⟩

/-! ### for -/
section
variable {g : Gd} {X : Cx} {W : WX} {n : Nat} {pos : Pos} {tg iter : Expr}
def forD (it : It') (t : Tg) (body : Ds) : Nat → Nat → Ds
  | 0, _, _, _ => .no
  | f + 1, i, s, h => match nxt it i h with
    | none => .no
    | some none => .nx s h
    | some (some v) => match setT t v s h with
      | none => .no
      | some s1 => match body s1 h with
        | .nx s2 h2 => forD it t body f (i + 1) s2 h2
        | .ct s2 h2 => forD it t body f (i + 1) s2 h2
        | .bk s2 h2 => .nx s2 h2
        | .rt v h2 => .rt v h2
        | .ex c s2 h2 => .ex c s2 h2
        | .no => .no
def dFor (di : Di) (t : Tg) (body : Ds) : Ds := fun s h => (di s h).bindS s fun it h1 => forD it t body (itLen it h1 + 1) 0 s h1
theorem s_for {b : Bool} {body : List Stmt} {di : Di} {t : Tg} {f : Ds} (hi : SI g X W n b tg iter di) (hg : SG g X b tg t) (hb : SB g X W n body f) (hs : ∀ x, foldedSetIterable iter X.env x = pure x := by intro _; rfl) :
    SS g X W n (.For tg iter body [] pos) (dFor di t f) := by
  intro C
  refine (ps_for C.pass C.calm (hi C) (hg C.K C.calm C.nd) (hb C) hs).imp ?_
  rintro D σ H ⟨ρ, s, hp, R, L, h⟩
  refine ⟨ρ, s, hp, R, L, ?_⟩
  unfold dFor at h
  cases q : di s hp with
  | no => rw [q] at h; exact h
  | ex c h1 => rw [q] at h; exact fun ρ1 H1 S1 R1 => h ρ1 H1 σ S1 R1 (L.step R S1)
  | ok it h1 =>
    rw [q] at h
    intro ρ0 H0 J S0 R0 hJ
    refine ⟨fun i m σ1 H1 => ∃ ρ1 s1 h2, Sp1 ρ0 H0 ρ1 H1 ∧ Rh g ρ1 H1 h2 ∧ Rsl g ρ1 H1 s1 σ1 ∧ PoS g ρ1 H1 (forD it t f m i s1 h2) D W, ⟨itLen it h1 + 1, ρ0, s, h1, .refl _ _, R0, L.step R S0, PoS.at h S0⟩, ?_⟩
    rintro i m σ1 H1 ⟨ρ1, s1, h2, S1, R1, L1, p1⟩
    cases m with
    | zero => exact p1.elim
    | succ m =>
      unfold forD at p1
      split at p1
      · exact p1.elim
      · rename_i hq
        exact .inl ⟨hJ i ρ1 H1 h2 none S1 R1 hq, p1 ρ1 H1 σ1 (.refl _ _) R1 L1⟩
      · rename_i v hq
        obtain ⟨hgo, hy⟩ := hJ i ρ1 H1 h2 (some v) S1 R1 hq
        refine .inr ⟨hgo, fun σ' H' => ∃ ρ1 s1 h2, Sp1 ρ0 H0 ρ1 H' ∧ Rh g ρ1 H' h2 ∧ Rsl g ρ1 H' s1 σ' ∧ PoS g ρ1 H' (forD it t f m (i + 1) s1 h2) D W, fun σ' H' w => ⟨m, Nat.lt_succ_self m, w⟩, fun x H2 hyl => ?_⟩
        obtain ⟨S2, R2, ry⟩ := hy x H2 hyl
        split at p1
        · exact p1.elim
        · rename_i s2 hset
          refine ⟨ρ1, s1, h2, v, s2, R2, L1.step R1 S2, ry, hset, fun σ' L' _ => ⟨ρ1, s2, h2, R2, L', ?_⟩⟩
          have p2 := PoS.at p1 S2
          have SS := S1.trans S2
          cases qb : f s2 h2 with
          | nx s3 h3 => rw [qb] at p2; exact fun ρ3 H3 σ3 S3 R3 L3 => ⟨ρ3, s3, h3, SS.trans S3, R3, L3, PoS.at p2 S3⟩
          | ct s3 h3 => rw [qb] at p2; exact fun ρ3 H3 σ3 S3 R3 L3 => ⟨ρ3, s3, h3, SS.trans S3, R3, L3, PoS.at p2 S3⟩
          | bk s3 h3 => rw [qb] at p2; exact p2
          | rt v h3 => rw [qb] at p2; exact p2
          | ex c s3 h3 => rw [qb] at p2; exact p2
          | no => rw [qb] at p2; exact p2

/-! ### while -/
def whileD (c : Dt) (body : Ds) : Nat → Ds
  | 0, _, _ => .no
  | f + 1, s, h => match c s h with
    | .ok true h1 => match body s h1 with
      | .nx s2 h2 => whileD c body f s2 h2
      | .ct s2 h2 => whileD c body f s2 h2
      | .bk s2 h2 => .nx s2 h2
      | .rt v h2 => .rt v h2
      | .ex c s2 h2 => .ex c s2 h2
      | .no => .no
    | .ok false h1 => .nx s h1
    | .ex c h1 => .ex c s h1
    | .no => .no
theorem s_while (m : Nat) {c : Expr} {body : List Stmt} {t : Dt} {f : Ds} (hc : ST g X W n c t) (hb : SB g X W n body f) : SS g X W n (.While c body [] pos) (whileD t f m) := by
  intro C
  refine (ps_while C.pass (hc C) (hb C)).imp ?_
  rintro D σ H ⟨ρ, s, hp, R, L, h⟩
  refine ⟨fun m σ1 H1 => ∃ ρ1 s1 h2, Rh g ρ1 H1 h2 ∧ Rsl g ρ1 H1 s1 σ1 ∧ PoS g ρ1 H1 (whileD t f m s1 h2) D W, ⟨m, ρ, s, hp, R, L, h⟩, ?_⟩
  rintro m σ1 H1 ⟨ρ1, s1, h2, R1, L1, p1⟩
  cases m with
  | zero => exact p1.elim
  | succ m =>
    unfold whileD at p1
    refine ⟨ρ1, s1, h2, R1, L1, ?_⟩
    cases qt : t s1 h2 with
    | no => rw [qt] at p1; exact p1
    | ex c h3 => rw [qt] at p1; exact fun ρ3 H3 S3 R3 => p1 ρ3 H3 σ1 S3 R3 (L1.step R1 S3)
    | ok b h3 =>
      rw [qt] at p1
      cases b with
      | false => exact fun ρ3 H3 S3 R3 => p1 ρ3 H3 σ1 S3 R3 (L1.step R1 S3)
      | true =>
        intro ρ3 H3 S3 R3
        refine ⟨fun σ' H' => ∃ ρ1 s1 h2, Rh g ρ1 H' h2 ∧ Rsl g ρ1 H' s1 σ' ∧ PoS g ρ1 H' (whileD t f m s1 h2) D W, fun σ' H' w => ⟨m, Nat.lt_succ_self m, w⟩, ρ3, s1, h3, R3, L1.step R1 S3, ?_⟩
        have p2 := PoS.at p1 S3
        simp only at p2
        cases qb : f s1 h3 with
        | nx s4 h4 => rw [qb] at p2; exact fun ρ4 H4 σ4 S4 R4 L4 => ⟨ρ4, s4, h4, R4, L4, PoS.at p2 S4⟩
        | ct s4 h4 => rw [qb] at p2; exact fun ρ4 H4 σ4 S4 R4 L4 => ⟨ρ4, s4, h4, R4, L4, PoS.at p2 S4⟩
        | bk s4 h4 => rw [qb] at p2; exact p2
        | rt v h4 => rw [qb] at p2; exact p2
        | ex c s4 h4 => rw [qb] at p2; exact p2
        | no => rw [qb] at p2; exact p2
end
end Wr

set_option Elab.async false
set_option linter.all false
set_option maxRecDepth 100000
set_option maxHeartbeats 4000000
set_option autoImplicit false
namespace Wr
open PySem PySem.Spec PyProof.Rows L2

/-! ### iterators -/
section
variable {g : Gd} {X : Cx} {W : WX} {n : Nat} {pos : Pos} {tg e : Expr}
theorem iBE {f : De} {k : Va → Hs → Rs It'} {σ : L2.St} {H : Hp} {ρ : List Addr} {s : Sg} {hp : Hs} {b : Bool} {Rr : It → Hp → Prop} {T : V → Hp → Prop} (h : PoI g b ρ H ((f s hp).bind k) Rr (EW W σ)) (R : Rh g ρ H hp) (L : Rsl g ρ H s σ)
    (hk : ∀ v h ρ1 H1 x, f s hp = .ok v h → Sp1 ρ H ρ1 H1 → Rh g ρ1 H1 h → Rv g ρ1 H1 v x → Rsl g ρ1 H1 s σ → PoI g b ρ1 H1 (k v h) Rr (EW W σ) → T x H1) : tE g W f σ H T := by
  refine ⟨ρ, s, hp, R, L, ?_⟩
  have mv : ∀ {ρ1 : List Addr} {H1 : Hp} {r : Rs It'}, Sp1 ρ H ρ1 H1 → PoI g b ρ H r Rr (EW W σ) → PoI g b ρ1 H1 r Rr (EW W σ) := fun {ρ1 H1 r} S h => by
    cases r with
    | ok v hh => exact fun ρ2 H2 x S2 R r => h ρ2 H2 x (S.trans S2) R r
    | ex c hh => exact fun ρ2 H2 S2 R => h ρ2 H2 (S.trans S2) R
    | no => exact h
  cases q : f s hp with
  | ok v h1 => rw [q] at h; exact fun ρ1 H1 x S R1 r => hk v h1 ρ1 H1 x q S R1 r (L.step R S) (mv S h)
  | ex c h1 => rw [q] at h; exact h
  | no => rw [q] at h; exact h
/-- a list, a tuple or a text of ours, as it is walked -/
def itOf (v : Va) (h : Hs) : Rs It' := match v with
  | .tup xs => .ok (.tup xs) h
  | .ref r => match h[r]? with
    | some (.lst _) => .ok (.lst r) h
    | _ => .no
  | .str x => .ok (.str x.cps.toList) h
  | _ => .no
theorem rit_list {ρ : List Addr} {H : Hp} {hp : Hs} {b : Bool} {r : Nat} {a : Addr} (ha : ρ[r]? = some a) : Rit g ρ H b (.lst r) (Itl g.K a) := by
  intro i ρ1 H1 hp1 o S1 R1 hq
  have ha1 := pre_get S1.pre ha
  unfold nxt at hq
  split at hq
  · rename_i xs hx
    obtain ⟨vs, e, rv⟩ := R1.obj r a _ ha1 hx
    have sq : SqL g.K H1 a vs := .inl (.inl e)
    cases hq
    cases hi : xs[i]? with
    | none =>
      have hl := rv.length
      rw [List.getElem?_eq_none_iff] at hi
      exact ⟨vs, sq, by omega⟩
    | some v =>
      obtain ⟨x, ex, rx⟩ := rv.get hi
      refine ⟨⟨vs, x, sq, ex⟩, fun y H2 hy => ?_⟩
      obtain ⟨rfl, hy⟩ := hy
      have e2 := hy vs sq
      rw [ex] at e2; cases e2
      exact ⟨.refl _ _, R1, Ry.of rx⟩
  · cases hq
theorem rit_tup {ρ : List Addr} {H : Hp} {hp : Hs} {b : Bool} {a : Addr} {xs : List Va} {vs : List V} (R : Rh g ρ H hp) (ht : SqN g.K H a vs) (rv : Rvs g ρ H xs vs) : Rit g ρ H b (.tup xs) (Itt g.K a) := by
  intro i ρ1 H1 hp1 o S1 R1 hq
  have sq : SqT g.K H1 a vs := (SqN.step R S1 ht).sqT
  have rv1 := Rvs.step R S1 _ _ rv
  unfold nxt at hq
  cases hq
  cases hi : xs[i]? with
  | none =>
    have hl := rv.length
    rw [List.getElem?_eq_none_iff] at hi
    exact ⟨vs, sq, by omega⟩
  | some v =>
    obtain ⟨x, ex, rx⟩ := rv1.get hi
    refine ⟨⟨vs, x, sq, ex⟩, fun y H2 hy => ?_⟩
    obtain ⟨rfl, hy⟩ := hy
    have e2 := hy vs sq
    rw [ex] at e2; cases e2
    exact ⟨.refl _ _, R1, Ry.of rx⟩
theorem rit_str {ρ : List Addr} {H : Hp} {b : Bool} {z : Str} : Rit g ρ H b (.str z.cps.toList) (Its z) := by
  intro i ρ1 H1 hp1 o S1 R1 hq
  unfold nxt at hq
  cases hq
  cases hi : z.cps.toList[i]? with
  | none =>
    rw [List.getElem?_eq_none_iff] at hi
    show z.cps.size ≤ i
    simpa using hi
  | some c =>
    have hc : z.cps[i]? = some c := by simpa using hi
    refine ⟨?_, fun y H2 hy => ?_⟩
    · show i < z.cps.size
      exact (Array.getElem?_eq_some_iff.mp hc).1
    · obtain ⟨rfl, c', h1, rfl⟩ := hy
      rw [hc] at h1; cases h1
      exact ⟨.refl _ _, R1, Ry.of (by simp only [Rv])⟩
def dIt (f : De) : Di := fun s h => (f s h).bind itOf
theorem i_seq {b : Bool} {f : De} (he : SE g X W n e f) : SI g X W n b tg e (dIt f) := by
  intro C
  refine (PI.or (pi_list (he C)) (PI.or (pi_tup (he C)) (pi_str (he C)))).imp ?_
  rintro σ H Rr ⟨ρ, s, hp, R, L, h⟩
  rw [C.K]
  unfold dIt at h
  cases q : f s hp with
  | no => simp only [q, Rs.bind] at h; exact h.elim
  | ex c h1 =>
    simp only [q, Rs.bind] at h
    exact .inl ⟨ρ, s, hp, R, L, by rw [q]; exact h⟩
  | ok v h1 =>
    cases v with
    | tup xs =>
      refine .inr (.inl (iBE h R L fun v h1 ρ1 H1 x e1 S1 R1 r1 L1 p1 => ?_))
      rw [q] at e1; cases e1
      simp only [Rv] at r1
      obtain ⟨a, vs, rfl, ht, rv⟩ := r1
      exact ⟨a, rfl, ⟨vs, ht.sqT⟩, p1 ρ1 H1 _ (.refl _ _) R1 (rit_tup R1 ht rv)⟩
    | str z =>
      refine .inr (.inr (iBE h R L fun v h1 ρ1 H1 x e1 S1 R1 r1 L1 p1 => ?_))
      rw [q] at e1; cases e1
      simp only [Rv] at r1
      exact ⟨z, r1, p1 ρ1 H1 _ (.refl _ _) R1 rit_str⟩
    | ref r =>
      refine .inl (iBE h R L fun v h1 ρ1 H1 x e1 S1 R1 r1 L1 p1 => ?_)
      rw [q] at e1; cases e1
      simp only [Rv] at r1
      obtain ⟨a, ha, rfl⟩ := r1
      unfold itOf at p1
      simp only at p1
      split at p1
      · rename_i xs hx
        obtain ⟨vs, e2, rv⟩ := R1.obj r a _ ha hx
        exact ⟨a, rfl, ⟨vs, .inl (.inl e2)⟩, p1 ρ1 H1 _ (.refl _ _) R1 (rit_list (hp := []) ha)⟩
      · exact p1.elim
    | _ => simp only [q, Rs.bind, itOf] at h; exact h.elim
/-- range -/
def rgOk (a b : Int) : Bool := decide (-(2 ^ 62) ≤ a) && decide (a < 2 ^ 62) && decide (-(2 ^ 62) ≤ b) && decide (b < 2 ^ 62)
theorem rgOk_ok {a b : Int} (h : rgOk a b = true) : -(2 ^ 62) ≤ a ∧ a < 2 ^ 62 ∧ -(2 ^ 62) ≤ b ∧ b < 2 ^ 62 := by
  unfold rgOk at h
  simp only [Bool.and_eq_true, decide_eq_true_eq] at h
  exact ⟨h.1.1.1, h.1.1.2, h.1.2, h.2⟩
def dRng1 (f : Da) : Di := fun s h => (f s h).bind fun vs h1 => match vs with
  | [.int j] => if rgOk 0 j then .ok (.rng 0 j.toNat) h1 else .no
  | _ => .no
def dRng2 (f : Da) : Di := fun s h => (f s h).bind fun vs h1 => match vs with
  | [.int i, .int j] => if rgOk i j then .ok (.rng i (j - i).toNat) h1 else .no
  | _ => .no
theorem rit_rng {ρ : List Addr} {H : Hp} {b : Bool} {lo : Int} {m : Nat} : Rit g ρ H b (.rng lo m) (Itr lo m) := by
  intro i ρ1 H1 hp1 o S1 R1 hq
  unfold nxt at hq
  cases hq
  by_cases hi : i < m
  · rw [if_pos hi]
    refine ⟨hi, fun y H2 hy => ?_⟩
    obtain ⟨rfl, rfl⟩ := hy
    exact ⟨.refl _ _, R1, Ry.of (by simp only [Rv])⟩
  · rw [if_neg hi]
    exact Nat.le_of_not_lt hi
theorem iBA {f : Da} {k : List Va → Hs → Rs It'} {σ : L2.St} {H : Hp} {ρ : List Addr} {s : Sg} {hp : Hs} {b : Bool} {Rr : It → Hp → Prop} {T : List V → Hp → Prop} (h : PoI g b ρ H ((f s hp).bind k) Rr (EW W σ)) (R : Rh g ρ H hp) (L : Rsl g ρ H s σ)
    (hk : ∀ v h ρ1 H1 x, f s hp = .ok v h → Sp1 ρ H ρ1 H1 → Rh g ρ1 H1 h → Rvs g ρ1 H1 v x → Rsl g ρ1 H1 s σ → PoI g b ρ1 H1 (k v h) Rr (EW W σ) → T x H1) : tA g W f σ H T := by
  refine ⟨ρ, s, hp, R, L, ?_⟩
  have mv : ∀ {ρ1 : List Addr} {H1 : Hp} {r : Rs It'}, Sp1 ρ H ρ1 H1 → PoI g b ρ H r Rr (EW W σ) → PoI g b ρ1 H1 r Rr (EW W σ) := fun {ρ1 H1 r} S h => by
    cases r with
    | ok v hh => exact fun ρ2 H2 x S2 R r => h ρ2 H2 x (S.trans S2) R r
    | ex c hh => exact fun ρ2 H2 S2 R => h ρ2 H2 (S.trans S2) R
    | no => exact h
  cases q : f s hp with
  | ok v h1 => rw [q] at h; exact fun ρ1 H1 x S R1 r => hk v h1 ρ1 H1 x q S R1 r (L.step R S) (mv S h)
  | ex c h1 => rw [q] at h; exact h
  | no => rw [q] at h; exact h
theorem Rvs.int1 {ρ : List Addr} {H : Hp} {j : Int} {x : List V} (h : Rvs g ρ H [.int j] x) : x = [.int j] := by
  simp only [Rvs, Rv] at h
  obtain ⟨v, r, rfl, rfl, rfl⟩ := h
  rfl
theorem Rvs.int2 {ρ : List Addr} {H : Hp} {i j : Int} {x : List V} (h : Rvs g ρ H [.int i, .int j] x) : x = [.int i, .int j] := by
  simp only [Rvs, Rv] at h
  obtain ⟨v, r, rfl, rfl, w, r', rfl, rfl, rfl⟩ := h
  rfl
theorem i_range1 {b : Bool} {a : Expr} {f : Da} {p : Pos} (hm : X.mg "range" = none) (ha : SA g X W n [a] f) (hg : Gl X "range" := by rfl) (hs : starEach [a] X.env = [(false, eval a X.env)] := by rfl) :
    SI g X W n b tg (.Call (.Name "range" p) [a] [] pos) (dRng1 f) := by
  intro C
  refine (pi_range1 hg hm (ha C) hs).imp ?_
  rintro σ H Rr ⟨ρ, s, hp, R, L, h⟩
  refine iBA h R L fun v h1 ρ1 H1 x e1 S1 R1 r1 L1 p1 => ?_
  split at p1
  · rename_i j
    by_cases ok : rgOk 0 j = true
    · rw [if_pos ok] at p1
      have o := rgOk_ok ok
      exact ⟨j, r1.int1, o.2.2.1, o.2.2.2, p1 ρ1 H1 _ (.refl _ _) R1 rit_rng⟩
    · rw [if_neg ok] at p1; exact p1.elim
  · exact p1.elim
theorem i_range2 {b : Bool} {a a2 : Expr} {f : Da} {p : Pos} (hm : X.mg "range" = none) (ha : SA g X W n [a, a2] f) (hg : Gl X "range" := by rfl) (hs : starEach [a, a2] X.env = [(false, eval a X.env), (false, eval a2 X.env)] := by rfl)
    (hs2 : starEach [a2] X.env = [(false, eval a2 X.env)] := by rfl) : SI g X W n b tg (.Call (.Name "range" p) [a, a2] [] pos) (dRng2 f) := by
  intro C
  refine (pi_range2 hg hm (ha C) hs hs2).imp ?_
  rintro σ H Rr ⟨ρ, s, hp, R, L, h⟩
  refine iBA h R L fun v h1 ρ1 H1 x e1 S1 R1 r1 L1 p1 => ?_
  split at p1
  · rename_i i j
    by_cases ok : rgOk i j = true
    · rw [if_pos ok] at p1
      exact ⟨i, j, r1.int2, rgOk_ok ok, p1 ρ1 H1 _ (.refl _ _) R1 rit_rng⟩
    · rw [if_neg ok] at p1; exact p1.elim
  · exact p1.elim
end

/-! ### zip and enumerate over lists and tuples in any mix -/
inductive Sk where
  | L | T
def Sq2 (K : PySem.W.Frag) (H : Hp) : Sk → Addr → List V → Prop
  | .L, a, xs => SqL K H a xs
  | .T, a, xs => SqT K H a xs
def IsIt (h : Heap) : Sk → Addr → Addr → Nat → Prop
  | .L, it, a, i => h.IsListIter it a i
  | .T, it, a, i => h.IsTupleIter it a i
def IsSq (h : Heap) : Sk → Addr → Array Value → Prop
  | .L, a, xs => h.IsList a xs
  | .T, a, xs => h.IsTuple a xs
theorem IsIt.kept {h h' : Heap} {k : Sk} {it a : Addr} {i : Nat} (x : IsIt h k it a i) (q : ∀ o, h.get? it = some o → h'.get? it = some o) : IsIt h' k it a i := by
  cases k with
  | L => exact Heap.IsListIter.at x q
  | T => exact Heap.IsTupleIter.at x q
theorem IsIt.obj {h : Heap} {k : Sk} {it a : Addr} {i : Nat} (x : IsIt h k it a i) : ∃ o, h.get? it = some o ∧ ∀ v, o.data ≠ .cell v := by
  cases k with
  | L => obtain ⟨o, e, _, d⟩ := x; exact ⟨o, e, fun v z => by rw [d] at z; cases z⟩
  | T => obtain ⟨o, e, _, d⟩ := x; exact ⟨o, e, fun v z => by rw [d] at z; cases z⟩
theorem drawsK {P : Program} {w : World} {A : Around} (k : Sk) (hh : A.handled = none) (it a : Addr) (hne : a ≠ it) (items : Array Value) :
    Draws P w A it [it, a] items.size (fun i v => items[i]? = some v) (fun i h => IsIt h k it a i ∧ IsSq h k a items) := by
  cases k with
  | L => exact Draws.list hh it a hne items
  | T => exact Draws.tuple hh it a hne items
theorem Sq2.inv {X : Cx} {pins : List (Addr × Obj)} {σ : L2.St} {H : Hp} {s : Shared} {k : Sk} {a : Addr} {xs : List V} (I : Inv X pins σ H s) (h : Sq2 X.K H k a xs) : ∃ its : List Value, Vals xs its ∧ IsSq s.heap k a its.toArray ∧ a < s.heap.objs.size := by
  cases k with
  | L =>
    obtain ⟨its, r, p, _⟩ := I.list h
    exact ⟨its, r, p.isList, p.lt⟩
  | T =>
    obtain ⟨its, r, p, _⟩ := I.tuple h
    obtain ⟨o, ho, q⟩ := id p
    exact ⟨its, r, p, Heap.lt_size ho⟩
theorem Sq2.inj {X : Cx} {pins : List (Addr × Obj)} {σ : L2.St} {H : Hp} {s : Shared} {k : Sk} {a : Addr} {xs ys : List V} (I : Inv X pins σ H s) (h : Sq2 X.K H k a xs) (h' : Sq2 X.K H k a ys) : xs = ys := by
  cases k with
  | L => exact I.list_inj h h'
  | T => exact I.tuple_inj h h'
def ItM (K : PySem.W.Frag) (k : Sk) (a : Addr) (k2 : Sk) (b : Addr) : It :=
  ⟨fun i H => ∃ (xs ys : List V) (x y : V), Sq2 K H k a xs ∧ Sq2 K H k2 b ys ∧ xs[i]? = some x ∧ ys[i]? = some y,
    fun i H v H' => ∃ T x y, v = .ref T ∧ H T = none ∧ H' = upd H T (.tup [x, y]) ∧ (∀ xs, Sq2 K H k a xs → xs[i]? = some x) ∧ ∀ ys, Sq2 K H k2 b ys → ys[i]? = some y,
    fun i H => ∃ xs ys : List V, Sq2 K H k a xs ∧ Sq2 K H k2 b ys ∧ i = min xs.length ys.length⟩
theorem turn_zipM {P : Program} {w : World} {K : PySem.W.Frag} {elts : List Expr} {kk : Nat} {tpos : Pos} {k k2 : Sk} {a b : Addr} {N : Nat} (ha : a < N) (hb : b < N) :
    Turn P w K (.Tuple elts kk tpos) (ItM K k a k2 b) [N + 4, N + 2, N + 3, N, N + 1] (N + 4)
      (fun i h => IsZip h (N + 4) (N + 2) (N + 3) .none ∧ IsTupOf2 h (N + 2) (.ref N) (.ref (N + 1)) ∧ (∃ x y, IsTupOf2 h (N + 3) x y) ∧ IsIt h k N a i ∧ IsIt h k2 (N + 1) b i) where
  mem := by simp
  obj := fun i h st c hc => by
    obtain ⟨hz, hTI, ⟨x, y, hTO⟩, h1, h2⟩ := st
    simp only [List.mem_cons, List.not_mem_nil, or_false] at hc
    rcases hc with q | q | q | q | q
    all_goals subst q
    · exact ⟨_, hz, fun v q => nomatch q⟩
    · exact ⟨_, hTI, fun v q => nomatch q⟩
    · exact ⟨_, hTO, fun v q => nomatch q⟩
    · exact h1.obj
    · exact h2.obj
  keep := fun i h h' st q => by
    obtain ⟨hz, hTI, ⟨x, y, hTO⟩, h1, h2⟩ := st
    exact ⟨q _ (by simp) _ hz, q _ (by simp) _ hTI, ⟨x, y, q _ (by simp) _ hTO⟩, h1.kept fun o e => q _ (by simp) o e, h2.kept fun o e => q _ (by simp) o e⟩
  item := by
    intro X hP hw hK hc i pins s σ H E I hf st hg
    subst hP hw hK
    obtain ⟨hz, hTI, hTO, h1, h2⟩ := st
    obtain ⟨xs, ys, x, y, hqx, hqy, hx, hy⟩ := hg
    obtain ⟨its, rv, p, _⟩ := Sq2.inv I hqx
    obtain ⟨its2, rv2, p2, _⟩ := Sq2.inv I hqy
    have hh : X.A.in1.handled = none := I.ok.hd hc
    have GG := GoesN.zip2 (prog := X.prog) (w := X.w) (A := X.A) (elts := elts) (x1 := kk) (pos := tpos) (zip_sep2 (N := N) (fp1 := [a]) (fp2 := [b]) (fun c q => by rw [List.mem_singleton.mp q]; exact ha) (fun c q => by rw [List.mem_singleton.mp q]; exact hb))
      (drawsK k hh N a (Nat.ne_of_lt ha) its.toArray) (drawsK k2 hh (N + 1) b (Nat.ne_of_lt (Nat.lt_succ_of_lt hb)) its2.toArray)
    have li : i < its.length := by rw [← rv.length]; exact (List.getElem?_eq_some_iff.mp hx).1
    have li2 : i < its2.length := by rw [← rv2.length]; exact (List.getElem?_eq_some_iff.mp hy).1
    refine GG.goes i s _ E (by simp only [List.size_toArray]; exact Nat.lt_min.mpr ⟨li, li2⟩) ⟨hz, hTI, hTO, ⟨h1, p⟩, ⟨h2, p2⟩⟩ fun v h' tk hY st' hk _ => ?_
    obtain ⟨T, u, u2, rfl, hT, hu, hu2, hIs⟩ := hY
    obtain ⟨w1, e1, ru⟩ := rv.get hx
    obtain ⟨w2, e2, ru2⟩ := rv2.get hy
    have eu : u = w1 := by
      have : its[i]? = some u := by simpa using hu
      rw [e1] at this; exact (Option.some.inj this).symm
    have eu2 : u2 = w2 := by
      have : its2[i]? = some u2 := by simpa using hu2
      rw [e2] at this; exact (Option.some.inj this).symm
    subst eu eu2
    have new : ObjOk X.prog X.w (upd H T (.tup [x, y])) h' T (.tup [x, y]) := ⟨by show 2 ≤ sizeLine; decide, [u, u2], .cons ru (.cons ru2 .nil), hIs⟩
    obtain ⟨z', TI', TO', ⟨h1', _⟩, ⟨h2', _⟩⟩ := st'
    have fresh : ∀ c, c ∈ [N + 4, N + 2, N + 3, N, N + 1] → c ≠ T := fun c hcm e => by
      have hlt : c < s.heap.objs.size := by
        simp only [List.mem_cons, List.not_mem_nil, or_false] at hcm
        obtain ⟨x0, y0, hTO⟩ := hTO
        rcases hcm with q | q | q | q | q
        all_goals subst q
        · exact Heap.lt_size hz
        · exact Heap.lt_size hTI
        · exact Heap.lt_size hTO
        · obtain ⟨o, e, _⟩ := h1.obj; exact Heap.lt_size e
        · obtain ⟨o, e, _⟩ := h2.obj; exact Heap.lt_size e
      rw [e] at hlt
      exact absurd (Nat.lt_of_lt_of_le hlt hT) (Nat.lt_irrefl _)
    refine ⟨.ref T, upd H T (.tup [x, y]), I.turnedNew (t' := tk) (ch := [N + 4, N + 2, N + 3, N, N + 1]) (fun c o hb e => hk c o (fun z => hb ?_) e) hf hT new, rfl,
      ⟨T, x, y, rfl, I.hok.fresh hT, rfl, fun l hl => by rw [Sq2.inj I hl hqx]; exact hx, fun l hl => by rw [Sq2.inj I hl hqy]; exact hy⟩, ⟨z', TI', TO', h1', h2'⟩, fun c hcm => by rw [upd_ne (fresh c hcm)]; exact (hf c hcm).1⟩
    simp only [List.mem_cons, List.not_mem_nil, or_false] at z ⊢
    rcases z with q | q | q | q <;> simp [q]
  done := by
    intro X hP hw hK hc i pins s σ H E I hf st hg
    subst hP hw hK
    obtain ⟨hz, hTI, hTO, h1, h2⟩ := st
    obtain ⟨xs, ys, hqx, hqy, hend⟩ := hg
    obtain ⟨its, rv, p, _⟩ := Sq2.inv I hqx
    obtain ⟨its2, rv2, p2, _⟩ := Sq2.inv I hqy
    have hh : X.A.in1.handled = none := I.ok.hd hc
    have GG := GoesN.zip2 (prog := X.prog) (w := X.w) (A := X.A) (elts := elts) (x1 := kk) (pos := tpos) (zip_sep2 (N := N) (fp1 := [a]) (fp2 := [b]) (fun c q => by rw [List.mem_singleton.mp q]; exact ha) (fun c q => by rw [List.mem_singleton.mp q]; exact hb))
      (drawsK k hh N a (Nat.ne_of_lt ha) its.toArray) (drawsK k2 hh (N + 1) b (Nat.ne_of_lt (Nat.lt_succ_of_lt hb)) its2.toArray)
    have ei : i = min its.toArray.size its2.toArray.size := by simp only [List.size_toArray, ← rv.length, ← rv2.length]; exact hend
    refine GG.stops s (fun s1 => Inv X pins σ H s1) E (by rw [← ei]; exact ⟨hz, hTI, hTO, ⟨h1, p⟩, ⟨h2, p2⟩⟩) fun h' tk hk _ => I.turnedL (t' := tk) (ch := [N + 4, N + 2, N + 3, N, N + 1]) (fun c o hb e => hk c o (fun z => hb ?_) e) hf
    simp only [List.mem_cons, List.not_mem_nil, or_false] at z ⊢
    rcases z with q | q | q | q <;> simp [q]
  self := fun A i s Q E st h => wpAny_pyIter_zip st.1 h
abbrev itO : Sk → Addr → Obj
  | .L, a => { cls := .type "list_iterator", data := .fields #[.ref a, .int 0 0] }
  | .T, a => { cls := .type "tuple_iterator", data := .fields #[.ref a, .int 0 0] }
theorem beginsK (k : Sk) (a : Addr) (items : Array Value) : Begins (.ref a) (itO k a) fun h => IsSq h k a items := by
  cases k with
  | L => exact begins_list a items
  | T => exact begins_tuple a items
theorem itO_at {h : Heap} {k : Sk} {it a : Addr} (e : h.get? it = some (itO k a)) : IsIt h k it a 0 := by
  cases k with
  | L => exact ⟨_, e, rfl, rfl⟩
  | T => exact ⟨_, e, rfl, rfl⟩
section
variable {g : Gd} {X : Cx} {W : WX} {n : Nat} {pos tpos : Pos} {e e2 : Expr} {elts : List Expr} {kk : Nat}
def iZipM (K : PySem.W.Frag) (ta : TA) : TI := fun σ H R => ta σ H fun vs H1 => ∃ a b k k2 xs ys, vs = [.ref a, .ref b] ∧ Sq2 K H1 k a xs ∧ Sq2 K H1 k2 b ys ∧ R (ItM K k a k2 b) H1
theorem pi_zipM {ta : TA} {p : Pos} (hg : Gl X "zip") (hm : X.mg "zip" = none) (ha : PA X [e, e2] ta) (hs : starEach [e, e2] X.env = (false, eval e X.env) :: starEach [e2] X.env) (hpl : (backTo pos (starEach [e2] X.env)).any (·.1) = false) :
    PI X (.Tuple elts kk tpos) (.Call (.Name "zip" p) [e, e2] [] pos) (iZipM X.K ta) := by
  constructor
  intro pins s σ H R I h
  refine Call_ (ld_blt I hg hm PyProof.Rows.boot_zip (PyProof.Rows.callWith_type1 (thn (ha.run pos pins s σ H _ I h) ?_) hs hpl))
  rintro us s1 ⟨vs, H1, I1, r1, a, b, k, k2, xs, ys, rfl, hqx, hqy, q⟩
  obtain ⟨u1, u2, rfl, ru1, ru2⟩ := vals2 r1
  cases ru1
  cases ru2
  obtain ⟨its, rv, p1, l1⟩ := Sq2.inv I1 hqx
  obtain ⟨its2, rv2, p2, l2⟩ := Sq2.inv I1 hqy
  refine zip_begins2 (beginsK k a its.toArray) (beginsK k2 b its2.toArray) p1 p2 fun h' hz hTI hTO o1 o2 hsz hk => wpAny_pyIter_zip hz ?_
  refine ⟨_, [s1.heap.objs.size + 4, s1.heap.objs.size + 2, s1.heap.objs.size + 3, s1.heap.objs.size, s1.heap.objs.size + 1], _, _, H1, rfl, I1.kept (t' := s1.toks) hk, turn_zipM l1 l2, ⟨hz, hTI, ⟨_, _, hTO⟩, itO_at o1, itO_at o2⟩, fun c hc => ?_, q⟩
  have hle : s1.heap.objs.size ≤ c := by
    simp only [List.mem_cons, List.not_mem_nil, or_false] at hc
    rcases hc with z | z | z | z | z <;> subst z <;> first | exact Nat.le_add_right _ _ | exact Nat.le_refl _
  exact I1.fpOk hle (I1.hok.fresh hle)
/-- a part of a zip -/
def Cmp (g : Gd) (ρ : List Addr) (H : Hp) : It' → Sk → Addr → Prop
  | .lst r, k, a => k = .L ∧ ρ[r]? = some a
  | .tup xs, k, a => k = .T ∧ ∃ vs, SqN g.K H a vs ∧ Rvs g ρ H xs vs
  | _, _, _ => False
theorem Cmp.at {ρ ρ1 : List Addr} {H H1 : Hp} {hp hp1 : Hs} {it : It'} {k : Sk} {a : Addr} {i : Nat} {o : Option Va} (R : Rh g ρ H hp) (c : Cmp g ρ H it k a) (S1 : Sp1 ρ H ρ1 H1) (R1 : Rh g ρ1 H1 hp1) (hq : nxt it i hp1 = some o) :
    ∃ ws, Sq2 g.K H1 k a ws ∧ itLen it hp1 = ws.length ∧ (o = none → ws[i]? = none) ∧ ∀ v, o = some v → ∃ x, ws[i]? = some x ∧ Rv g ρ1 H1 v x := by
  cases it with
  | lst r =>
    obtain ⟨rfl, ha⟩ := c
    unfold nxt at hq
    split at hq
    · rename_i xs hx
      obtain ⟨vs, e, rv⟩ := R1.obj r a _ (pre_get S1.pre ha) hx
      cases hq
      refine ⟨vs, .inl (.inl e), ?_, fun e2 => rv.none_of e2, fun v e2 => rv.get e2⟩
      simp only [itLen, hx]
      exact rv.length
    · cases hq
  | tup xs =>
    obtain ⟨rfl, vs, ht, rv⟩ := c
    have rv1 := Rvs.step R S1 _ _ rv
    unfold nxt at hq
    cases hq
    exact ⟨vs, (SqN.step R S1 ht).sqT, rv.length, fun e2 => rv1.none_of e2, fun v e2 => rv1.get e2⟩
  | _ => exact c.elim
theorem rit_zip {ρ : List Addr} {H : Hp} {hp : Hs} {it it2 : It'} {k k2 : Sk} {a b : Addr} (R : Rh g ρ H hp) (c : Cmp g ρ H it k a) (c2 : Cmp g ρ H it2 k2 b) : Rit g ρ H true (.zip it it2) (ItM g.K k a k2 b) := by
  intro i ρ1 H1 hp1 o S1 R1 hq
  unfold nxt at hq
  by_cases hl : (decide (i ≤ itLen it hp1) && decide (i ≤ itLen it2 hp1)) = true
  · rw [if_pos hl] at hq
    rw [Bool.and_eq_true, decide_eq_true_eq, decide_eq_true_eq] at hl
    cases q1 : nxt it i hp1 with
    | none => rw [q1] at hq; cases hq
    | some o1 =>
      obtain ⟨ws, sq, ln, n1, s1⟩ := c.at R S1 R1 q1
      have stop : ∀ {ws2 : List V}, Sq2 g.K H1 k2 b ws2 → itLen it2 hp1 = ws2.length → (ws.length ≤ i ∨ ws2.length ≤ i) → (ItM g.K k a k2 b).stop i H1 := fun {ws2} sq2 ln2 h => ⟨ws, ws2, sq, sq2, by omega⟩
      cases q2 : nxt it2 i hp1 with
      | none => rw [q1, q2] at hq; cases hq
      | some o2 =>
        obtain ⟨ws2, sq2, ln2, n2, s2⟩ := c2.at R S1 R1 q2
        rw [q1, q2] at hq
        cases o1 with
        | none =>
          cases hq
          have := n1 rfl
          rw [List.getElem?_eq_none_iff] at this
          exact stop sq2 ln2 (.inl this)
        | some v =>
          cases o2 with
          | none =>
            cases hq
            have := n2 rfl
            rw [List.getElem?_eq_none_iff] at this
            exact stop sq2 ln2 (.inr this)
          | some v2 =>
            cases hq
            obtain ⟨x, ex, rx⟩ := s1 v rfl
            obtain ⟨y, ey, ry⟩ := s2 v2 rfl
            refine ⟨⟨ws, ws2, x, y, sq, sq2, ex, ey⟩, fun z H2 hy => ?_⟩
            obtain ⟨T, x', y', rfl, hT, rfl, f1, f2⟩ := hy
            have e1 := f1 ws sq
            have e2 := f2 ws2 sq2
            rw [ex] at e1; cases e1
            rw [ey] at e2; cases e2
            obtain ⟨S2, R2⟩ := R1.laid (u := .tup [x, y]) hT
            exact ⟨S2, R2, .inr ⟨[v, v2], [x, y], T, rfl, rfl, .inl (.inl upd_same), Rvs.step R1 S2 _ _ (Rvs.cons rx (Rvs.one ry))⟩⟩
  · rw [if_neg hl] at hq; cases hq
def pairIt (x y : Va) (h : Hs) : Rs It' := (itOf x h).bind fun a h1 => (itOf y h1).bind fun b h2 => .ok (.zip a b) h2
def dZip (f : Da) : Di := fun s h => (f s h).bind fun vs h1 => match vs with
  | [x, y] => pairIt x y h1
  | _ => .no
/-- a part of a zip, by its value -/
theorem cmp_of {ρ : List Addr} {H : Hp} {hp h' : Hs} {v : Va} {x : V} {it : It'} (R : Rh g ρ H hp) (r : Rv g ρ H v x) (e : itOf v hp = .ok it h') (hs : ∀ z, v ≠ .str z) : h' = hp ∧ ∃ k a xs, x = .ref a ∧ Cmp g ρ H it k a ∧ Sq2 g.K H k a xs := by
  cases v with
  | tup xs =>
    cases e
    simp only [Rv] at r
    obtain ⟨a, vs, rfl, ht, rv⟩ := r
    exact ⟨rfl, .T, a, vs, rfl, ⟨rfl, vs, ht, rv⟩, ht.sqT⟩
  | ref i =>
    simp only [Rv] at r
    obtain ⟨a, ha, rfl⟩ := r
    unfold itOf at e
    simp only at e
    split at e
    · rename_i xs hx
      cases e
      obtain ⟨vs, e2, rv⟩ := R.obj i a _ ha hx
      exact ⟨rfl, .L, a, vs, rfl, ⟨rfl, ha⟩, .inl (.inl e2)⟩
    · cases e
  | str z => exact absurd rfl (hs z)
  | _ => exact nomatch e
theorem nostr_zip {x : Va} {it : It'} {h h' : Hs} {k : Sk} {z : Str} (e : x = .str z) (q : itOf x h = .ok it h') : ∃ l, it = .str l := by
  subst e
  cases q
  exact ⟨_, rfl⟩
/-- no texts in a zip -/
def noStr : Va → Bool
  | .str _ => false
  | _ => true
def dZipS (f : Da) : Di := fun s h => (f s h).bind fun vs h1 => match vs with
  | [x, y] => if noStr x && noStr y then pairIt x y h1 else .no
  | _ => .no
theorem i_zip {f : Da} {p : Pos} (hm : X.mg "zip" = none) (ha : SA g X W n [e, e2] f) (hg : Gl X "zip" := by rfl) (hs : starEach [e, e2] X.env = (false, eval e X.env) :: starEach [e2] X.env := by rfl) (hpl : (backTo pos (starEach [e2] X.env)).any (·.1) = false := by rfl) :
    SI g X W n true (.Tuple elts kk tpos) (.Call (.Name "zip" p) [e, e2] [] pos) (dZipS f) := by
  intro C
  refine (pi_zipM hg hm (ha C) hs hpl).imp ?_
  rintro σ H Rr ⟨ρ, s, hp, R, L, h⟩
  rw [C.K]
  refine iBA h R L fun v h1 ρ1 H1 x e1 S1 R1 r1 L1 p1 => ?_
  split at p1
  · rename_i v1 v2
    by_cases ns : (noStr v1 && noStr v2) = true
    · rw [if_pos ns] at p1
      rw [Bool.and_eq_true] at ns
      have n1 : ∀ z, v1 ≠ .str z := fun z q => by rw [q] at ns; exact nomatch ns.1
      have n2 : ∀ z, v2 ≠ .str z := fun z q => by rw [q] at ns; exact nomatch ns.2
      simp only [Rvs] at r1
      obtain ⟨x1, r, rfl, q1, x2, r', rfl, q2, rfl⟩ := r1
      unfold pairIt at p1
      cases t1 : itOf v1 h1 with
      | no => rw [t1] at p1; exact p1.elim
      | ex c hh =>
        exfalso
        unfold itOf at t1
        split at t1 <;> first | cases t1 | (split at t1 <;> cases t1)
      | ok it hh =>
        obtain ⟨rfl, k, a, xs, rfl, c1, sq1⟩ := cmp_of R1 q1 t1 n1
        rw [t1] at p1
        simp only [Rs.bind] at p1
        cases t2 : itOf v2 hh with
        | no => rw [t2] at p1; exact p1.elim
        | ex c hh =>
          exfalso
          unfold itOf at t2
          split at t2 <;> first | cases t2 | (split at t2 <;> cases t2)
        | ok it2 hh2 =>
          obtain ⟨rfl, k2, b, ys, rfl, c2, sq2⟩ := cmp_of R1 q2 t2 n2
          rw [t2] at p1
          exact ⟨a, b, k, k2, xs, ys, rfl, sq1, sq2, p1 ρ1 H1 _ (.refl _ _) R1 (rit_zip R1 c1 c2)⟩
    · rw [if_neg ns] at p1; exact p1.elim
  · exact p1.elim
end
end Wr

set_option Elab.async false
set_option linter.all false
set_option maxRecDepth 100000
set_option maxHeartbeats 4000000
set_option autoImplicit false
namespace Wr
open PySem PySem.Spec PyProof.Rows L2

/-! ### list comprehensions -/
abbrev W0 : WX := fun _ _ _ _ => False
theorem Cz.blk {g : Gd} {X : Cx} {W : WX} {n : Nat} (C : Cz g X W n) (s : Shared) (H : Hp) (sc : Scope) (ce : Env) (fp : List Addr) : Cz g (X.blk s H sc ce fp) W0 n :=
  ⟨C.K, takes0, C.calm, C.nd, C.room, PassesOwn.never⟩
def STs (g : Gd) (X : Cx) (W : WX) (n : Nat) (es : List Expr) (f : Dt) : Prop := Cz g X W n → PTs X es (tT g W f)
theorem _root_.L2.PTs.imp {X : Cx} {e : List Expr} {t t' : TT} (h : PTs X e t) (q : ∀ σ H Q, t' σ H Q → t σ H Q) : PTs X e t' := ⟨fun pins s σ H Q I w => h.run pins s σ H Q I (q _ _ _ w)⟩
section
variable {g : Gd} {X : Cx} {W : WX} {n : Nat} {pos : Pos} {tg iter elt : Expr} {ifs : List Expr}
def dYes : Dt := fun _ h => .ok true h
theorem ts_nil : STs g X W n [] dYes := fun _ => pts_nil.imp fun σ H Q ⟨ρ, s, hp, R, L, h⟩ => h ρ H (.refl _ _) R
theorem ts_one {c : Expr} {f : Dt} (h : ST g X W n c f) : STs g X W n [c] f := fun C => pts_one (h C)
def compL (it : It') (t : Tg) (test : Dt) (el : De) (s : Sg) : Nat → Nat → Hs → Rs (List Va)
  | 0, _, _ => .no
  | f + 1, i, h => match nxt it i h with
    | none => .no
    | some none => .ok [] h
    | some (some v) => match setT t v s h with
      | none => .no
      | some s1 => match test s1 h with
        | .ok true h1 => match el s1 h1 with
          | .ok y h2 => match compL it t test el s f (i + 1) h2 with
            | .ok ys h3 => .ok (y :: ys) h3
            | .ex _ _ => .no
            | .no => .no
          | .ex _ _ => .no
          | .no => .no
        | .ok false h1 => compL it t test el s f (i + 1) h1
        | .ex _ _ => .no
        | .no => .no
def dComp (own : List Nat) (di : Di) (t : Tg) (test : Dt) (el : De) : De := fun s h => (di s h).bind fun it h1 => (compL it t test el (wipeS s own) (itLen it h1 + 1) 0 h1).bind mkL
theorem comp_imp {b : Bool} {own : List Nat} {di : Di} {t : Tg} {test : Dt} {el : De} (hsl : ∀ i ∈ t.slots, i ∈ own) {σ : L2.St} {H : Hp} {Q : VK} (h : tE g W (dComp own di t test el) σ H Q) :
    tLc (tI g W b di) (tG g b t) (tT g W0 test) (tE g W0 el) own σ H Q := by
  obtain ⟨ρ, s, hp, R, L, h⟩ := h
  refine ⟨ρ, s, hp, R, L, ?_⟩
  unfold dComp at h
  cases q : di s hp with
  | no => rw [q] at h; exact h
  | ex c h1 => rw [q] at h; exact h
  | ok it h1 =>
    rw [q] at h
    simp only [Rs.bind] at h
    intro ρ0 H0 J S0 R0 hJ D hD
    have h0 := PoE.at h S0
    have L0 := L.step R S0
    -- the list so far stands at D, which is not ours yet
    refine ⟨fun i m H1 => ∃ ρ1 h2 acc accV, Sp1 ρ0 H0 ρ1 H1 ∧ Rh g ρ1 H1 h2 ∧ D ∉ ρ1 ∧ H1 D = some (.lst accV) ∧ Rvs g ρ1 H1 acc accV ∧
      PoE g ρ0 H0 ((compL it t test el (wipeS s own) m i h2).bind fun ys h3 => mkL (acc ++ ys) h3) Q (EW W σ), ⟨itLen it h1 + 1, ?_⟩, ?_⟩
    · obtain ⟨S1, R1⟩ := R0.laid (u := .lst []) hD
      refine ⟨ρ0, h1, [], [], S1, R1, fun z => ?_, upd_same, Rvs.nil, h0⟩
      have := R0.mut z
      rw [hD] at this; exact this
    rintro i m H1 ⟨ρ1, h2, acc, accV, S1, R1, nD, eD, rv, p1⟩
    cases m with
    | zero => exact p1.elim
    | succ m =>
      unfold compL at p1
      split at p1
      · exact p1.elim
      · rename_i hq
        refine .inl ⟨hJ i ρ1 H1 h2 none S1 R1 hq, ?_⟩
        simp only [Rs.bind, mkL, List.append_nil] at p1
        by_cases hz : okN acc.length = true
        · rw [if_pos hz] at p1
          have R2 := R1.take nD eD rv
          refine p1 (ρ1 ++ [D]) H1 (.ref D) ⟨S1.pre.trans (List.prefix_append _ _), fun b hb => ?_, S1.keep, S1.frz⟩ R2 ?_
          · rcases List.mem_append.mp hb with z | z
            · exact S1.new b z
            · rw [List.mem_singleton.mp z]; exact .inr hD
          · simp only [Rv]
            exact ⟨D, by rw [← R1.len]; simp, rfl⟩
        · rw [if_neg hz] at p1; exact p1.elim
      · rename_i v hq
        obtain ⟨hgo, hy⟩ := hJ i ρ1 H1 h2 (some v) S1 R1 hq
        refine .inr ⟨hgo, fun H' => ∃ ρ1 h2 acc accV, Sp1 ρ0 H0 ρ1 H' ∧ Rh g ρ1 H' h2 ∧ D ∉ ρ1 ∧ H' D = some (.lst accV) ∧ Rvs g ρ1 H' acc accV ∧
          PoE g ρ0 H0 ((compL it t test el (wipeS s own) m (i + 1) h2).bind fun ys h3 => mkL (acc ++ ys) h3) Q (EW W σ), fun H' w => ⟨m, Nat.lt_succ_self m, w⟩, fun x H2 hyl => ?_⟩
        obtain ⟨S2, R2, ry⟩ := hy x H2 hyl
        have eD2 := S2.keep _ _ eD nD
        have rv2 := Rvs.step R1 S2 _ _ rv
        have S12 := S1.trans S2
        have L2' : Rsl g ρ1 H2 (wipeS s own) (wipe σ own) := ((L0.wipe own).step R0 S12)
        split at p1
        · exact p1.elim
        · rename_i s2 hset
          refine ⟨ρ1, wipeS s own, h2, v, s2, R2, L2', ry, hset, fun σ' L' A => ⟨?_, ?_⟩⟩
          · rw [A own hsl]
            exact wipe_wipe σ own own fun _ z => z
          refine ⟨ρ1, s2, h2, R2, L', ?_⟩
          cases qt : test s2 h2 with
          | no => rw [qt] at p1; exact p1.elim
          | ex c h3 => rw [qt] at p1; exact p1.elim
          | ok bt h3 =>
            rw [qt] at p1
            intro ρ3 H3 S3 R3
            have nD3 : D ∉ ρ3 := fun z => by
              rcases S3.new D z with w | w
              · exact nD w
              · rw [eD2] at w; cases w
            have eD3 := S3.keep _ _ eD2 nD
            have rv3 := Rvs.step R2 S3 _ _ rv2
            have S13 := S12.trans S3
            cases bt with
            | false =>
              simp only at p1
              exact ⟨ρ3, h3, acc, accV, S13, R3, nD3, eD3, rv3, p1⟩
            | true =>
              refine ⟨ρ3, s2, h3, R3, L'.step R2 S3, ?_⟩
              simp only at p1
              cases qe : el s2 h3 with
              | no => rw [qe] at p1; exact p1.elim
              | ex c h4 => rw [qe] at p1; exact p1.elim
              | ok y h4 =>
                rw [qe] at p1
                intro ρ4 H4 z S4 R4 rz
                have nD4 : D ∉ ρ4 := fun w => by
                  rcases S4.new D w with w | w
                  · exact nD3 w
                  · rw [eD3] at w; cases w
                have eD4 := S4.keep _ _ eD3 nD3
                have rv4 := Rvs.step R3 S4 _ _ rv3
                have S14 := S13.trans S4
                simp only at p1
                have T : Tst g H4 (upd H4 D (.lst (accV ++ [z]))) := Tst.upd eD4
                -- the list's length
                have hlen : accV.length < sizeLine := by
                  cases qc : compL it t test el (wipeS s own) m (i + 1) h4 with
                  | no => rw [qc] at p1; exact p1.elim
                  | ex c h5 => rw [qc] at p1; exact p1.elim
                  | ok ys h5 =>
                    rw [qc] at p1
                    simp only [Rs.bind, mkL] at p1
                    by_cases hz : okN (acc ++ y :: ys).length = true
                    · have := okN_le hz
                      rw [← rv4.length]
                      simp at this
                      omega
                    · rw [if_neg hz] at p1; exact p1.elim
                refine ⟨accV, eD4, hlen, ρ4, h4, acc ++ [y], accV ++ [z], ?_, R4.other T nD4, nD4, upd_same, Rvs.tst T (List.prefix_refl _) _ _ (rv4.append (Rvs.one rz)), ?_⟩
                · have hne : ∀ b o, H0 b = some o → b ≠ D := fun b o hb z => by rw [z, hD] at hb; cases hb
                  exact ⟨S14.pre, S14.new, fun b o hb hn => by rw [upd_ne (hne b o hb)]; exact S14.keep b o hb hn, fun b o u hb => by rw [upd_ne (hne b _ hb)]; exact S14.frz b o u hb⟩
                · cases qc : compL it t test el (wipeS s own) m (i + 1) h4 with
                  | no => rw [qc] at p1; exact p1.elim
                  | ex c h5 => rw [qc] at p1; exact p1.elim
                  | ok ys h5 =>
                    rw [qc] at p1
                    simp only [Rs.bind] at p1 ⊢
                    rw [List.append_assoc]
                    exact p1
def subL (a b : List Nat) : Bool := a.all fun i => b.contains i
theorem subL_ok {a b : List Nat} (h : subL a b = true) : ∀ i ∈ a, i ∈ b := fun i hi => by
  have := List.all_eq_true.mp h i hi
  exact List.contains_iff_mem.mp this
/-- [elt for target in iter if ..] -/
theorem e_comp {b : Bool} {scope : Scope} (own : List (Str × Nat)) {di : Di} {t : Tg} {test : Dt} {el : De} (hi : SI g X W n b tg iter di) (ok : BlkOk X.N X.env.scope scope own)
    (hg : ∀ (s : Shared) (H : Hp) (C : Addr) (cl : List (Str × Addr)) (fp : List Addr), SG g (X.blk s H scope (compEnvC scope cl C X.env) fp) b tg t)
    (ht : ∀ (s : Shared) (H : Hp) (C : Addr) (cl : List (Str × Addr)) (fp : List Addr), STs g (X.blk s H scope (compEnvC scope cl C X.env) fp) W0 n ifs test)
    (he : ∀ (s : Shared) (H : Hp) (C : Addr) (cl : List (Str × Addr)) (fp : List Addr), SE g (X.blk s H scope (compEnvC scope cl C X.env) fp) W0 n elt el)
    (hsl : subL t.slots (own.map (·.2)) = true := by rfl) (hs : ∀ x, foldedSetIterable iter X.env x = pure x := by intro _; rfl) :
    SE g X W n (.ListComp elt [⟨tg, iter, ifs, 0⟩] scope pos) (dComp (own.map (·.2)) di t test el) := by
  intro C
  refine (pe_lc C.calm C.nd (hi C) ok (fun s H c cl fp => hg s H c cl fp C.K C.calm C.nd) (fun s H c cl fp => ht s H c cl fp (C.blk ..)) (fun s H c cl fp => he s H c cl fp (C.blk ..)) hs).imp ?_
  exact fun σ H Q h => comp_imp (subL_ok hsl) h
theorem s_setLc (i : Nat) {b : Bool} {y : Str} {py spos : Pos} {scope : Scope} (own : List (Str × Nat)) {di : Di} {t : Tg} {test : Dt} {el : De} (hi : SI g X W n b tg iter di) (ok : BlkOk X.N X.env.scope scope own)
    (hg : ∀ (s : Shared) (H : Hp) (C : Addr) (cl : List (Str × Addr)) (fp : List Addr), SG g (X.blk s H scope (compEnvC scope cl C X.env) fp) b tg t)
    (ht : ∀ (s : Shared) (H : Hp) (C : Addr) (cl : List (Str × Addr)) (fp : List Addr), STs g (X.blk s H scope (compEnvC scope cl C X.env) fp) W0 n ifs test)
    (he : ∀ (s : Shared) (H : Hp) (C : Addr) (cl : List (Str × Addr)) (fp : List Addr), SE g (X.blk s H scope (compEnvC scope cl C X.env) fp) W0 n elt el)
    (hy : X.N[i]? = some y := by rfl) (hyl : X.env.scope.names.lookup y = some .local := by rfl)
    (hsw : swapsWith (.ListComp elt [⟨tg, iter, ifs, 0⟩] scope pos) (some (.Name y py)) spos.line X.env = pure true := by exact sw_true rfl rfl rfl (by decide +kernel))
    (hsl : subL t.slots (own.map (·.2)) = true := by rfl) (hs : ∀ x, foldedSetIterable iter X.env x = pure x := by intro _; rfl) :
    SS g X W n (.Assign [.Name y py] (.ListComp elt [⟨tg, iter, ifs, 0⟩] scope pos) spos) (dSet i (dComp (own.map (·.2)) di t test el)) := by
  intro C
  refine (ps_setLc C.calm C.nd hy hyl hsw (hi C) ok (fun s H c cl fp => hg s H c cl fp C.K C.calm C.nd) (fun s H c cl fp => ht s H c cl fp (C.blk ..)) (fun s H c cl fp => he s H c cl fp (C.blk ..)) hs).imp ?_
  rintro D σ H h
  have q := set_imp h
  exact comp_imp (subL_ok hsl) q
end

/-! ### a def -/
def toRs : RS → Rs Va
  | .nx _ h => .ok .non h
  | .rt v h => .ok v h
  | .ex c _ h => .ex c h
  | .bk _ _ => .no
  | .ct _ _ => .no
  | .no => .no
/-- what the callee made and nobody sees any more is dropped -/
def lastM (n0 : Nat) (v : Va) (h : Hs) : List Nat := List.range n0 ++ (reach 300 h (refsV v ++ (h.take n0).flatMap refsO) []).filter (fun i => decide (n0 ≤ i))
def compact (n0 : Nat) : Rs Va → Rs Va
  | .ok v h => if h.length == n0 then .ok v h else
      let m := lastM n0 v h
      if nodupB m then match ren (idx m) v with
        | some v' => match selO m h m with
          | some h' => .ok v' h'
          | none => .no
        | none => .no
      else .no
  | .ex c h => .ex c h
  | .no => .no
theorem range_take {m : List Nat} {n0 : Nat} {l : List Nat} (h : m = List.range n0 ++ l) (ρ1 : List Addr) (hl : n0 ≤ ρ1.length) : ρ1.take n0 <+: pickA ρ1 m := by
  subst h
  have : pickA ρ1 (List.range n0 ++ l) = ρ1.take n0 ++ pickA ρ1 l := by
    unfold pickA
    rw [List.map_append]
    congr 1
    apply List.ext_getElem?
    intro i
    rw [List.getElem?_map, List.getElem?_take]
    by_cases hi : i < n0
    · rw [if_pos hi, List.getElem?_range hi]
      have : i < ρ1.length := by omega
      simp [List.getD, List.getElem?_eq_getElem this]
    · rw [if_neg hi, List.getElem?_eq_none (by simp; omega)]
      rfl
  rw [this]
  exact List.prefix_append _ _
theorem compact_ok {g : Gd} {ρ : List Addr} {H : Hp} {r : Rs Va} {Q : VK} {E : XK} (h : PoE g ρ H (compact ρ.length r) Q E) : PoE g ρ H r Q E := by
  cases r with
  | no => exact h
  | ex c h1 => exact h
  | ok v h1 =>
    unfold compact at h
    by_cases hl : (h1.length == ρ.length) = true
    · simp only at h
      rw [if_pos hl] at h
      exact h
    · simp only at h
      rw [if_neg hl] at h
      generalize hm : lastM ρ.length v h1 = m at h
      by_cases hn : nodupB m = true
      · rw [if_pos hn] at h
        split at h
        · rename_i v' hv
          split at h
          · rename_i h' hs
            intro ρ1 H1 x S1 R1 r1
            obtain ⟨R2, mv, sub, at_⟩ := sel_ok R1 (nodupB_ok hn) hs
            have hlen : ρ.length ≤ ρ1.length := S1.pre.length_le
            refine h (pickA ρ1 m) H1 x ⟨?_, fun b hb => S1.new b (sub b hb), S1.keep, S1.frz⟩ R2 (ren_ok mv _ _ _ r1 hv)
            have e : ρ1.take ρ.length = ρ := by
              obtain ⟨c, hc⟩ := S1.pre
              rw [← hc]; simp
            rw [← e]
            have q := range_take (l := _) (n0 := ρ.length) hm.symm ρ1 hlen
            rw [e] at q ⊢
            exact q
          · exact h.elim
        · exact h.elim
      · rw [if_neg hn] at h; exact h.elim
/-- the function of a def with nN names, whose body does b -/
def fnD (nN : Nat) (b : Ds) : Fn := fun args hp => compact hp.length (toRs (b (args.map some ++ List.replicate (nN - args.length) none) hp))
theorem fn_den {g : Gd} {P : Program} {w : World} {mg : Str → Option Value} {base : Heap} {x qual : Str} {st : Stmt} {f : Addr} {fd : FuncData} {N ps : List Str} {k nN np : Nat} {b : Ds} (F : Fun g.K x qual st f fd) (S : FnScope N ps (defScope st)) (hN : N.length = nN) (hp : ps.length = np)
    (body : ∀ (cdv : Value) (A : Around) (outer : List Env) (s : Shared) (H : Hp) (E : XK), SB g (cxOf (L2.CX P w) P w g.K mg base N qual (defScope st) f cdv A outer s H E) (fun c d _ H' => E c d H') k (defBody st) b) :
    FnOk P w g.K mg base (L2.CX P w) (k + 1) f fd ps (spD g np (fnD nN b)) := by
  refine F.okX S (fun vs H Q E h => by rw [hp]; exact h.1) fun cdv A outer s H vs Q E hr h => ?_
  obtain ⟨hl, ρ, hh, xs, R, r, q⟩ := h
  have tk : Takes (cxOf (L2.CX P w) P w g.K mg base N qual (defScope st) f cdv A outer s H E) (fun c d _ H' => E c d H') := takes_of rfl rfl rfl rfl
  refine ⟨_, body cdv A outer s H E ⟨rfl, tk, rfl, S.nd, hr, passes_of rfl⟩, ρ, xs.map some ++ List.replicate (nN - xs.length) none, hh, R, ?_, ?_⟩
  · have hx := r.length
    refine ⟨by simp [L2.start, hN, hx], fun i x e => ?_⟩
    by_cases hi : i < xs.length
    · rw [List.getElem?_append_left (by simpa using hi), List.getElem?_map] at e
      obtain ⟨y, ey, e2⟩ := Option.map_eq_some_iff.mp e
      cases e2
      obtain ⟨v, ev, rv⟩ := r.get ey
      refine ⟨v, ?_, rv⟩
      unfold L2.start
      rw [List.getElem?_append_left (by simp; omega), List.getElem?_map, ev]
      rfl
    · rw [List.getElem?_append_right (by simp; omega), List.getElem?_replicate] at e
      split at e <;> cases e
  · unfold fnD at q
    rw [← R.len] at q
    have q2 := compact_ok q
    cases qb : b (xs.map some ++ List.replicate (nN - xs.length) none) hh with
    | nx s1 h1 => rw [qb] at q2; exact fun ρ1 H1 σ1 S1 R1 L1 => q2 ρ1 H1 .non S1 R1 (by simp only [Rv])
    | rt v h1 => rw [qb] at q2; exact q2
    | ex c s1 h1 => rw [qb] at q2; exact fun ρ1 H1 σ1 S1 R1 L1 => q2 ρ1 H1 S1 R1
    | bk s1 h1 => rw [qb] at q2; exact q2.elim
    | ct s1 h1 => rw [qb] at q2; exact q2.elim
    | no => rw [qb] at q2; exact q2.elim
end Wr

set_option Elab.async false
set_option linter.all false
set_option maxRecDepth 100000
set_option maxHeartbeats 4000000
set_option autoImplicit false
namespace Wr
open PySem PySem.Spec PyProof.Rows L2

/-! ### data -/
def mapO {α β : Type} (f : α → Option β) : List α → Option (List β)
  | [] => some []
  | x :: xs => match f x with
    | some y => match mapO f xs with
      | some ys => some (y :: ys)
      | none => none
    | none => none
def toD (h : Hs) : Nat → Va → Option PyData
  | _, .non => some .none
  | _, .bl b => some (.bool b)
  | _, .int i => some (.int i)
  | _, .str x => if PyData.canLay0 (.str x) then some (.str x) else none
  | n + 1, .tup xs => (mapO (toD h n) xs).map .tuple
  | n + 1, .ref i => match h[i]? with
    | some (.lst xs) => (mapO (toD h n) xs).map .list
    | _ => none
  | _, _ => none
section
variable {g : Gd} {ρ : List Addr} {H : Hp} {hp : Hs}
theorem mapO_dp {f : Va → Option PyData} (hf : ∀ x v d, Rv g ρ H x v → f x = some d → Dp g.K H v d) : ∀ (xs : List Va) (vs : List V) (ds : List PyData), Rvs g ρ H xs vs → mapO f xs = some ds → DpAll g.K H vs ds
  | [], _, _, r, e => by
    simp only [Rvs] at r
    subst r
    cases e
    exact .nil
  | x :: xs, _, _, r, e => by
    simp only [Rvs] at r
    obtain ⟨v, vr, rfl, r1, r2⟩ := r
    unfold mapO at e
    split at e
    · rename_i y hy
      split at e
      · rename_i ys hys
        cases e
        exact .cons (hf x v y r1 hy) (mapO_dp hf xs vr ys r2 hys)
      · cases e
    · cases e
theorem toD_dp (R : Rh g ρ H hp) : ∀ (n : Nat) (x : Va) (v : V) (d : PyData), Rv g ρ H x v → toD hp n x = some d → Dp g.K H v d
  | n, .non, _, _, r, e => by simp only [Rv] at r; subst r; cases n <;> (unfold toD at e; cases e; exact .non)
  | n, .bl b, _, _, r, e => by simp only [Rv] at r; subst r; cases n <;> (unfold toD at e; cases e; exact .bl b)
  | n, .int i, _, _, r, e => by simp only [Rv] at r; subst r; cases n <;> (unfold toD at e; cases e; exact .int i)
  | n, .str x, _, d, r, e => by
    simp only [Rv] at r
    subst r
    have e' : (if PyData.canLay0 (.str x) then some (PyData.str x) else none) = some d := by cases n <;> exact e
    split at e'
    · cases e'; exact .str x
    · cases e'
  | 0, .tup _, _, _, _, e => by unfold toD at e; cases e
  | n + 1, .tup xs, _, _, r, e => by
    simp only [Rv] at r
    obtain ⟨a, vs, rfl, ht, rv⟩ := r
    unfold toD at e
    obtain ⟨ds, hd, rfl⟩ := Option.map_eq_some_iff.mp e
    exact .tup ht.sqT (mapO_dp (fun x v d r e => toD_dp R n x v d r e) xs vs ds rv hd)
  | 0, .ref _, _, _, _, e => by unfold toD at e; cases e
  | n + 1, .ref i, _, _, r, e => by
    simp only [Rv] at r
    obtain ⟨a, ha, rfl⟩ := r
    unfold toD at e
    split at e
    · rename_i xs hx
      obtain ⟨vs, e2, rv⟩ := R.obj i a _ ha hx
      obtain ⟨ds, hd, rfl⟩ := Option.map_eq_some_iff.mp e
      exact .lst (.inl (.inl e2)) (mapO_dp (fun x v d r e => toD_dp R n x v d r e) xs vs ds rv hd)
    · cases e
  | n, .ty _, _, _, _, e => by cases n <;> (unfold toD at e; cases e)
  | n, .gl _, _, _, _, e => by cases n <;> (unfold toD at e; cases e)
  | n, .scr, _, _, _, e => by cases n <;> (unfold toD at e; cases e)
theorem mapO_lay {f : Va → Option PyData} {m : Nat} (hf : ∀ x d, f x = some d → d.canLay0 = true ∧ d.depth ≤ m) : ∀ (xs : List Va) (ds : List PyData), mapO f xs = some ds → PyData.canLayAll0 ds = true ∧ PyData.depthAll ds ≤ m
  | [], _, e => by cases e; simp [PyData.canLayAll0, PyData.depthAll]
  | x :: xs, _, e => by
    unfold mapO at e
    split at e
    · rename_i y hy
      split at e
      · rename_i ys hys
        cases e
        obtain ⟨h1, h2⟩ := hf x y hy
        obtain ⟨h3, h4⟩ := mapO_lay hf xs ys hys
        simp only [PyData.canLayAll0, PyData.depthAll, h1, h3, Bool.and_self, true_and]
        omega
      · cases e
    · cases e
theorem toD_lay : ∀ (n : Nat) (x : Va) (d : PyData), toD hp n x = some d → d.canLay0 = true ∧ d.depth ≤ n
  | n, .non, _, e => by cases n <;> (unfold toD at e; cases e; simp [PyData.canLay0, PyData.depth])
  | n, .bl b, _, e => by cases n <;> (unfold toD at e; cases e; simp [PyData.canLay0, PyData.depth])
  | n, .int i, _, e => by cases n <;> (unfold toD at e; cases e; simp [PyData.canLay0, PyData.depth])
  | n, .str x, d, e => by
    have e' : (if PyData.canLay0 (.str x) then some (PyData.str x) else none) = some d := by cases n <;> exact e
    split at e'
    · rename_i h
      cases e'
      exact ⟨h, by simp [PyData.depth]⟩
    · cases e'
  | 0, .tup _, _, e => by unfold toD at e; cases e
  | n + 1, .tup xs, _, e => by
    unfold toD at e
    obtain ⟨ds, hd, rfl⟩ := Option.map_eq_some_iff.mp e
    obtain ⟨h1, h2⟩ := mapO_lay (fun x d q => toD_lay n x d q) xs ds hd
    simp only [PyData.canLay0, PyData.depth]
    exact ⟨h1, by omega⟩
  | 0, .ref _, _, e => by unfold toD at e; cases e
  | n + 1, .ref i, _, e => by
    unfold toD at e
    split at e
    · rename_i xs hx
      obtain ⟨ds, hd, rfl⟩ := Option.map_eq_some_iff.mp e
      obtain ⟨h1, h2⟩ := mapO_lay (fun x d q => toD_lay n x d q) xs ds hd
      simp only [PyData.canLay0, PyData.depth]
      exact ⟨h1, by omega⟩
    · cases e
  | n, .ty _, _, e => by cases n <;> (unfold toD at e; cases e)
  | n, .gl _, _, e => by cases n <;> (unfold toD at e; cases e)
  | n, .scr, _, e => by cases n <;> (unfold toD at e; cases e)
theorem toD_shaped {x : Va} {d : PyData} (e : toD hp 9 x = some d) : SeqAt.shaped d = true := by
  obtain ⟨h1, h2⟩ := toD_lay 9 x d e
  unfold SeqAt.shaped
  rw [h1, decide_eq_true (by omega : d.depth ≤ 64)]
  rfl

/-! ### == and != -/
def kEq : K2 := fun x y h => match toD h 9 x with
  | some d => match toD h 9 y with
    | some e => some (.bl (PyData.eqv d e), h)
    | none => none
  | none => none
def kNe : K2 := fun x y h => match toD h 9 x with
  | some d => match toD h 9 y with
    | some e => some (.bl (!PyData.eqv d e), h)
    | none => none
  | none => none
theorem rv_bl {b : Bool} {v : V} (h : Rv g ρ H (.bl b) v) : v = .bl b := by simpa only [Rv] using h
theorem rv_int {b : Int} {v : V} (h : Rv g ρ H (.int b) v) : v = .int b := by simpa only [Rv] using h
theorem rv_str {b : Str} {v : V} (h : Rv g ρ H (.str b) v) : v = .str b := by simpa only [Rv] using h
theorem rv_non {v : V} (h : Rv g ρ H .non v) : v = .non := by simpa only [Rv] using h
theorem rv_ty {b : String} {v : V} (h : Rv g ρ H (.ty b) v) : v = .ty b := by simpa only [Rv] using h
theorem mk_bl {b : Bool} : Rv g ρ H (.bl b) (.bl b) := by simp only [Rv]
theorem mk_int {b : Int} : Rv g ρ H (.int b) (.int b) := by simp only [Rv]
theorem mk_str {b : Str} : Rv g ρ H (.str b) (.str b) := by simp only [Rv]
theorem mk_non : Rv g ρ H .non .non := by simp only [Rv]
end
section
variable {g : Gd}
theorem p_eq : P2 g (rEqD g.K) kEq := by
  intro ρ H hp x y vx vy v h' Q R rx ry e q
  unfold kEq at e
  split at e
  · rename_i d hd
    split at e
    · rename_i d2 hd2
      cases e
      exact ⟨d, d2, toD_dp R 9 x vx d rx hd, toD_dp R 9 y vy d2 ry hd2, toD_shaped hd, toD_shaped hd2, q ρ H _ (.refl _ _) R mk_bl⟩
    · cases e
  · cases e
theorem p_ne : P2 g (rNeD g.K) kNe := by
  intro ρ H hp x y vx vy v h' Q R rx ry e q
  unfold kNe at e
  split at e
  · rename_i d hd
    split at e
    · rename_i d2 hd2
      cases e
      exact ⟨d, d2, toD_dp R 9 x vx d rx hd, toD_dp R 9 y vy d2 ry hd2, toD_shaped hd, toD_shaped hd2, q ρ H _ (.refl _ _) R mk_bl⟩
    · cases e
  · cases e
theorem o_eq : OpC g .Eq (rEqD g.K) := fun X hK hu => hK ▸ op_eqD (by omega)
theorem o_ne : OpC g .NotEq (rNeD g.K) := fun X hK hu => hK ▸ op_neD (by omega)
/-! ### order of ints -/
def kI (p : Int → Int → Va) : K2 := fun x y h => match x, y with
  | .int i, .int j => some (p i j, h)
  | _, _ => none
theorem kI_inv {p : Int → Int → Va} {x y v : Va} {h h' : Hs} (e : kI p x y h = some (v, h')) : ∃ i j, x = .int i ∧ y = .int j ∧ v = p i j ∧ h' = h := by
  unfold kI at e
  split at e
  · cases e; exact ⟨_, _, rfl, rfl, rfl, rfl⟩
  · cases e
theorem p_I {p : Int → Int → Va} {c : Int → Int → V} (hp : ∀ i j ρ H, Rv g ρ H (p i j) (c i j)) : P2 g (rI0 c) (kI p) := by
  intro ρ H hp' x y vx vy v h' Q R rx ry e q
  obtain ⟨i, j, rfl, rfl, rfl, rfl⟩ := kI_inv e
  exact ⟨i, j, rv_int rx, rv_int ry, q ρ H _ (.refl _ _) R (hp i j ρ H)⟩
def kLt : K2 := kI fun i j => .bl (decide (i < j))
def kLe : K2 := kI fun i j => .bl (decide (i ≤ j))
def kGt : K2 := kI fun i j => .bl (decide (j < i))
def kGe : K2 := kI fun i j => .bl (decide (j ≤ i))
theorem p_lt : P2 g (rI0 fun i j => .bl (decide (i < j))) kLt := p_I fun _ _ _ _ => mk_bl
theorem p_le : P2 g (rI0 fun i j => .bl (decide (i ≤ j))) kLe := p_I fun _ _ _ _ => mk_bl
theorem p_gt : P2 g (rI0 fun i j => .bl (decide (j < i))) kGt := p_I fun _ _ _ _ => mk_bl
theorem p_ge : P2 g (rI0 fun i j => .bl (decide (j ≤ i))) kGe := p_I fun _ _ _ _ => mk_bl
theorem o_lt : OpC g .Lt (rI0 fun i j => .bl (decide (i < j))) := fun X hK hu => op_lt
theorem o_le : OpC g .LtE (rI0 fun i j => .bl (decide (i ≤ j))) := fun X hK hu => op_le
theorem o_gt : OpC g .Gt (rI0 fun i j => .bl (decide (j < i))) := fun X hK hu => op_gt
theorem o_ge : OpC g .GtE (rI0 fun i j => .bl (decide (j ≤ i))) := fun X hK hu => op_ge
/-! ### in, not in: lists and tuples of data -/
def inD (x y : Va) (h : Hs) : Option Bool := match toD h 9 x with
  | some d => match toD h 9 y with
    | some (.list ds) => some (ds.any fun z => PyData.eqv z d)
    | some (.tuple ds) => some (ds.any fun z => PyData.eqv z d)
    | _ => none
  | none => none
def kIn : K2 := fun x y h => (inD x y h).map fun b => (.bl b, h)
def kNotIn : K2 := fun x y h => (inD x y h).map fun b => (.bl (!b), h)
def rInA (K : PySem.W.Frag) (n : Bool) : R2 := fun x y H Q => ∃ d c ds, Dp K H x d ∧ Dp K H y c ∧ (c = .list ds ∨ c = .tuple ds) ∧ SeqAt.shaped d = true ∧ SeqAt.shaped c = true ∧ Q (.bl (if n then !ds.any fun z => PyData.eqv z d else ds.any fun z => PyData.eqv z d)) H
theorem o_in : OpC g .In (rInA g.K false) := by
  intro X hK hu pins s σ H x y v u Q I rx ry h
  rw [← hK] at h
  obtain ⟨d, c, ds, hd, he, hc, sd, se, q⟩ := h
  obtain ⟨as, r1⟩ := Dp.reads I d x v hd rx
  obtain ⟨bs, r2⟩ := Dp.reads I c y u he ry
  rcases hc with rfl | rfl
  · exact SeqAt.in_list_reads r2 r1 (SeqAt.canLay_of_shaped se) (SeqAt.canLay_of_shaped sd) (PyProof.Rows.room_in_shaped sd (by omega)) ⟨.bl _, H, I, rfl, q⟩
  · exact SeqAt.in_tuple_reads r2 r1 (SeqAt.canLay_of_shaped se) (SeqAt.canLay_of_shaped sd) (PyProof.Rows.room_in_shaped sd (by omega)) ⟨.bl _, H, I, rfl, q⟩
theorem o_notin : OpC g .NotIn (rInA g.K true) := by
  intro X hK hu pins s σ H x y v u Q I rx ry h
  rw [← hK] at h
  obtain ⟨d, c, ds, hd, he, hc, sd, se, q⟩ := h
  obtain ⟨as, r1⟩ := Dp.reads I d x v hd rx
  obtain ⟨bs, r2⟩ := Dp.reads I c y u he ry
  rcases hc with rfl | rfl
  · exact SeqAt.notIn_list_reads r2 r1 (SeqAt.canLay_of_shaped se) (SeqAt.canLay_of_shaped sd) (PyProof.Rows.room_in_shaped sd (by omega)) ⟨.bl _, H, I, rfl, q⟩
  · exact SeqAt.notIn_tuple_reads r2 r1 (SeqAt.canLay_of_shaped se) (SeqAt.canLay_of_shaped sd) (PyProof.Rows.room_in_shaped sd (by omega)) ⟨.bl _, H, I, rfl, q⟩
theorem inD_inv {ρ : List Addr} {H : Hp} {hp : Hs} {x y : Va} {vx vy : V} {b : Bool} (R : Rh g ρ H hp) (rx : Rv g ρ H x vx) (ry : Rv g ρ H y vy) (e : inD x y hp = some b) :
    ∃ d c ds, Dp g.K H vx d ∧ Dp g.K H vy c ∧ (c = .list ds ∨ c = .tuple ds) ∧ SeqAt.shaped d = true ∧ SeqAt.shaped c = true ∧ b = ds.any fun z => PyData.eqv z d := by
  unfold inD at e
  split at e
  · rename_i d hd
    split at e
    · rename_i ds hc
      cases e
      exact ⟨d, _, ds, toD_dp R 9 x vx d rx hd, toD_dp R 9 y vy _ ry hc, .inl rfl, toD_shaped hd, toD_shaped hc, rfl⟩
    · rename_i ds hc
      cases e
      exact ⟨d, _, ds, toD_dp R 9 x vx d rx hd, toD_dp R 9 y vy _ ry hc, .inr rfl, toD_shaped hd, toD_shaped hc, rfl⟩
    · cases e
  · cases e
theorem p_in : P2 g (rInA g.K false) kIn := by
  intro ρ H hp x y vx vy v h' Q R rx ry e q
  obtain ⟨b, hb, e⟩ := Option.map_eq_some_iff.mp e
  cases e
  obtain ⟨d, c, ds, h1, h2, h3, h4, h5, rfl⟩ := inD_inv R rx ry hb
  exact ⟨d, c, ds, h1, h2, h3, h4, h5, q ρ H _ (.refl _ _) R mk_bl⟩
theorem p_notin : P2 g (rInA g.K true) kNotIn := by
  intro ρ H hp x y vx vy v h' Q R rx ry e q
  obtain ⟨b, hb, e⟩ := Option.map_eq_some_iff.mp e
  cases e
  obtain ⟨d, c, ds, h1, h2, h3, h4, h5, rfl⟩ := inD_inv R rx ry hb
  exact ⟨d, c, ds, h1, h2, h3, h4, h5, q ρ H _ (.refl _ _) R mk_bl⟩
/-! ### is, is not: None, bools -/
def isV (x y : Va) : Option Bool := match y with
  | .non => match x with
    | .non => some true
    | .gl _ => none
    | .scr => none
    | _ => some false
  | .bl b => match x with
    | .bl c => some (decide (c = b))
    | _ => none
  | _ => none
def kIs : K2 := fun x y h => (isV x y).map fun b => (.bl b, h)
def kIsNot : K2 := fun x y h => (isV x y).map fun b => (.bl (!b), h)
theorem o_is : OpC g .Is (fun x y H Q => (y = .non ∧ Q (.bl (decide (x = .non))) H) ∨ rIsB x y H Q) := fun X hK hu => OpR.or op_isN op_isBl
theorem o_isnot : OpC g .IsNot (fun x y H Q => (y = .non ∧ Q (.bl (!decide (x = .non))) H) ∨ rNotB x y H Q) := fun X hK hu => OpR.or op_notN op_notBl
theorem isV_inv {ρ : List Addr} {H : Hp} {x y : Va} {vx vy : V} {b : Bool} (rx : Rv g ρ H x vx) (ry : Rv g ρ H y vy) (e : isV x y = some b) :
    (vy = .non ∧ b = decide (vx = .non)) ∨ ∃ c d, vx = .bl c ∧ vy = .bl d ∧ b = decide (c = d) := by
  unfold isV at e
  split at e
  · left
    refine ⟨rv_non ry, ?_⟩
    split at e
    · cases e
      rw [rv_non rx]; rfl
    · cases e
    · cases e
    · rename_i h1 h2 h3
      cases e
      symm
      refine decide_eq_false fun z => ?_
      subst z
      cases x with
      | non => exact h1 rfl
      | tup xs => simp only [Rv] at rx; obtain ⟨a, vs, e, _⟩ := rx; cases e
      | ref i => simp only [Rv] at rx; obtain ⟨a, _, e⟩ := rx; cases e
      | gl n => exact h2 n rfl
      | scr => exact h3 rfl
      | _ => simp only [Rv] at rx; cases rx
  · right
    split at e
    · cases e
      exact ⟨_, _, rv_bl rx, rv_bl ry, rfl⟩
    · cases e
  · cases e
theorem p_is : P2 g (fun x y H Q => (y = .non ∧ Q (.bl (decide (x = .non))) H) ∨ rIsB x y H Q) kIs := by
  intro ρ H hp x y vx vy v h' Q R rx ry e q
  obtain ⟨b, hb, e⟩ := Option.map_eq_some_iff.mp e
  cases e
  rcases isV_inv rx ry hb with ⟨h1, rfl⟩ | ⟨c, d, h1, h2, rfl⟩
  · exact .inl ⟨h1, q ρ H _ (.refl _ _) R mk_bl⟩
  · exact .inr ⟨c, d, h1, h2, q ρ H _ (.refl _ _) R mk_bl⟩
theorem p_isnot : P2 g (fun x y H Q => (y = .non ∧ Q (.bl (!decide (x = .non))) H) ∨ rNotB x y H Q) kIsNot := by
  intro ρ H hp x y vx vy v h' Q R rx ry e q
  obtain ⟨b, hb, e⟩ := Option.map_eq_some_iff.mp e
  cases e
  rcases isV_inv rx ry hb with ⟨h1, rfl⟩ | ⟨c, d, h1, h2, rfl⟩
  · exact .inl ⟨h1, q ρ H _ (.refl _ _) R mk_bl⟩
  · exact .inr ⟨c, d, h1, h2, q ρ H _ (.refl _ _) R mk_bl⟩
end
end Wr

set_option Elab.async false
set_option linter.all false
set_option maxRecDepth 100000
set_option maxHeartbeats 4000000
set_option autoImplicit false
namespace Wr
open PySem PySem.Spec PyProof.Rows L2

section
variable {X : Cx}
/-- the new tuple at the heap's end, its object known -/
theorem EP.newN {pins : List (Addr × Obj)} {σ : L2.St} {H : Hp} {s : Shared} {h' : Heap} {p : Addr} {vs : List V} {us : List Value} {t' : Nat} {Q : VK} (I : Inv X pins σ H s) (k : ∀ b u, s.heap.get? b = some u → h'.get? b = some u) (hp : s.heap.objs.size ≤ p)
    (e : h'.get? p = some (tupO us)) (r : Vals vs us) (hz : vs.length ≤ sizeLine) (q : ∀ p us, H p = none → Q (.ref p) (upd H p (.frz (tupO us) (.tup vs)))) : EP X pins σ Q (.ref p) { s with heap := h', toks := t' } :=
  ⟨.ref p, _, laidN I k hp e r hz, rfl, q p us (I.hok.fresh hp)⟩
abbrev NewT (H : Hp) (vs : List V) (Q : VK) : Prop := ∀ p us, H p = none → Q (.ref p) (upd H p (.frz (tupO us) (.tup vs)))
/-! ### t + u -/
def rCatN (K : PySem.W.Frag) : R2 := fun x y H Q => ∃ a b xs ys, x = .ref a ∧ y = .ref b ∧ SqT K H a xs ∧ SqT K H b ys ∧ xs.length + ys.length ≤ sizeLine ∧
  (xs = [] → Q (.ref b) H) ∧ (xs ≠ [] → ys = [] → Q (.ref a) H) ∧ (xs ≠ [] → ys ≠ [] → NewT H (xs ++ ys) Q)
theorem op_catN : OpR X (binaryOp .Add) (rCatN X.K) := by
  intro pins s σ H x y v u Q I rx ry h
  obtain ⟨a, b, xs, ys, rfl, rfl, ha, hb, hz, q0, q1, q2⟩ := h
  by_cases hx : xs = []
  · exact op_catA pins s σ H _ _ v u Q I rx ry ⟨a, b, xs, ys, rfl, rfl, ha, hb, hz, q0, fun z => absurd hx z, fun z => absurd hx z⟩
  · cases rx
    cases ry
    obtain ⟨its, r1, p1, _⟩ := I.tuple ha
    obtain ⟨its2, r2, p2, _⟩ := I.tuple hb
    have len : its.length + its2.length ≤ sizeLine := by rw [← r1.length, ← r2.length]; exact hz
    refine HT.cat_tup p1 p2 (fun z => hx (r1.nil_iff.mp z)) (fun z => ⟨.ref a, H, I, rfl, q1 hx (r2.nil_iff.mp z)⟩) (fun z => ?_) len
    exact EP.newN (t' := s.toks) I (fun b ob q => Heap.get?_push_of_some _ q) (Nat.le_refl _) (Heap.get?_push_size _ rfl) (r1.append r2) (by rw [List.length_append]; exact hz) (q2 hx fun w => z (r2.nil_iff.mpr w))
/-! ### tuple(list) -/
def rTupOf (K : PySem.W.Frag) : List V → Hp → VK → Prop := fun xs H Q => ∃ p ys, xs = [.ref p] ∧ ((SqL K H p ys ∧ NewT H ys Q) ∨ (SqT K H p ys ∧ Q (.ref p) H))
theorem cr_tuple : CallR X (.type "tuple") (rTupOf X.K) := by
  intro pins s σ H xs us Q I r h
  obtain ⟨p, ys, rfl, h⟩ := h
  rcases h with ⟨hq, q⟩ | ⟨hq, q⟩
  · obtain ⟨u, rfl, rx⟩ := vals1 r
    cases rx
    obtain ⟨its, r', pl, hz⟩ := I.list hq
    have hlen := r'.length
    refine call_tuple_list pl.isList (fun h' kp => ?_) (by simp only [List.size_toArray] <;> omega)
    have I1 : Inv X pins σ H { s with heap := h' } := I.kept (t' := s.toks) kp
    exact EP.newN (s := { s with heap := h' }) (t' := s.toks) I1 (fun b o e => Heap.get?_push_of_some _ e) (Nat.le_refl _) (Heap.get?_push_size _ rfl) r' hz q
  · exact call_tupleT pins s σ H _ us Q I r ⟨p, ys, rfl, hq, q⟩
/-! ### t[lo:hi] -/
def rSlN (K : PySem.W.Frag) : V → Option Int → Option Int → Hp → VK → Prop := fun x lo hi H Q => ∃ a xs, x = .ref a ∧ SqT K H a xs ∧
  (HT.sIx xs.length 0 lo = 0 ∧ HT.sIx xs.length xs.length hi = xs.length → Q (.ref a) H) ∧ (¬ (HT.sIx xs.length 0 lo = 0 ∧ HT.sIx xs.length xs.length hi = xs.length) → NewT H (cutV xs lo hi) Q)
theorem sl_tupN : SlR X (rSlN X.K) := by
  intro pins s σ H x v vl vu lo hi sl Q I rx hs pl pu h
  obtain ⟨a, xs, rfl, hx, q1, q2⟩ := h
  by_cases hw : HT.sIx xs.length 0 lo = 0 ∧ HT.sIx xs.length xs.length hi = xs.length
  · exact sl_tupA pins s σ H _ v vl vu lo hi sl Q I rx hs pl pu ⟨a, xs, rfl, hx, q1, fun z => absurd hw z⟩
  · cases rx
    obtain ⟨its, r, ht, hz⟩ := I.tuple hx
    have hlen : its.toArray.size = xs.length := by rw [List.size_toArray]; exact r.length.symm
    refine ⟨"tuple", _, PyProof.Rows.slot_tuple_getitem.lookup, ht.typeIs, HT.getItem_tuple_cut ht hs pl pu (by rw [hlen]; exact hw) ?_ (by rw [hlen]; exact hz)⟩
    rw [hlen]
    exact EP.newN (t' := s.toks) I (fun b ob q => Heap.get?_push_of_some _ q) (Nat.le_refl _) (Heap.get?_push_size _ rfl) ((r.drop (HT.sIx xs.length 0 lo)).take (HT.sIx xs.length xs.length hi - HT.sIx xs.length 0 lo))
      (Nat.le_trans (cutV_length xs lo hi) hz) (q2 hw)
end

/-! ### slices of ours -/
def cutA {α : Type} (xs : List α) (lo hi : Option Int) : List α := (xs.drop (HT.sIx xs.length 0 lo)).take (HT.sIx xs.length xs.length hi - HT.sIx xs.length 0 lo)
theorem Rvs.cut {g : Gd} {ρ : List Addr} {H : Hp} {xs : List Va} {vs : List V} (lo hi : Option Int) (h : Rvs g ρ H xs vs) : Rvs g ρ H (cutA xs lo hi) (cutV vs lo hi) := by
  unfold cutA cutV
  rw [h.length]
  exact (h.drop _).take _
abbrev Dp' := Sg → Hs → Rs (Option Int)
def PoO (g : Gd) (ρ : List Addr) (H : Hp) (r : Rs (Option Int)) (Q : Option Int → Hp → Prop) (E : XK) : Prop := match r with
  | .ok b h => ∀ ρ' H', Sp1 ρ H ρ' H' → Rh g ρ' H' h → Q b H'
  | .ex c h => ∀ ρ' H', Sp1 ρ H ρ' H' → Rh g ρ' H' h → E (.ref (g.G c)) none H'
  | .no => False
def tO (g : Gd) (W : WX) (f : Dp') : TO := fun σ H Q => ∃ ρ s hp, Rh g ρ H hp ∧ Rsl g ρ H s σ ∧ PoO g ρ H (f s hp) Q (fun c d H' => W c d σ H')
def SO (g : Gd) (X : Cx) (W : WX) (n : Nat) (e : Option Expr) (f : Dp') : Prop := Cz g X W n → PO X e (tO g W f)
section
variable {g : Gd} {X : Cx} {W : WX} {n : Nat} {pos p2 : Pos} {e : Expr}
theorem _root_.L2.PO.imp {X : Cx} {e : Option Expr} {t t' : TO} (h : PO X e t) (q : ∀ σ H Q, t' σ H Q → t σ H Q) : PO X e t' := ⟨fun pins s σ H Q I w => h.run pins s σ H Q I (q _ _ _ w)⟩
def oNone : Dp' := fun _ h => .ok none h
def oSome (f : De) : Dp' := fun s h => (f s h).bind fun v h1 => match v with
  | .int i => .ok (some i) h1
  | _ => .no
theorem o_none : SO g X W n none oNone := fun _ => po_none.imp fun σ H Q ⟨ρ, s, hp, R, L, h⟩ => h ρ H (.refl _ _) R
theorem o_some {f : De} (h : SE g X W n e f) : SO g X W n (some e) (oSome f) := by
  intro C
  refine (po_some (h C)).imp ?_
  rintro σ H Q ⟨ρ, s, hp, R, L, h⟩
  refine ⟨ρ, s, hp, R, L, ?_⟩
  unfold oSome at h
  cases q : f s hp with
  | no => rw [q] at h; exact h
  | ex c h1 => rw [q] at h; exact h
  | ok v h1 =>
    rw [q] at h
    cases v with
    | int i => exact fun ρ1 H1 x S1 R1 r1 => ⟨i, rv_int r1, h ρ1 H1 S1 R1⟩
    | _ => exact h.elim
theorem oBE {f : Dp'} {k : Option Int → Hs → Rs Va} {σ : L2.St} {H : Hp} {ρ : List Addr} {s : Sg} {hp : Hs} {Q : VK} {T : Option Int → Hp → Prop} (h : PoE g ρ H ((f s hp).bind k) Q (EW W σ)) (R : Rh g ρ H hp) (L : Rsl g ρ H s σ)
    (hk : ∀ v h ρ1 H1, Sp1 ρ H ρ1 H1 → Rh g ρ1 H1 h → Rsl g ρ1 H1 s σ → PoE g ρ1 H1 (k v h) Q (EW W σ) → T v H1) : tO g W f σ H T := by
  refine ⟨ρ, s, hp, R, L, ?_⟩
  cases q : f s hp with
  | ok v h1 => rw [q] at h; exact fun ρ1 H1 S R1 => hk v h1 ρ1 H1 S R1 (L.step R S) (PoE.at h S)
  | ex c h1 => rw [q] at h; exact h
  | no => rw [q] at h; exact h
def kSl (x : Va) (lo hi : Option Int) (h : Hs) : Rs Va := match x with
  | .tup xs => .ok (.tup (cutA xs lo hi)) h
  | .ref r => match h[r]? with
    | some (.lst xs) => .ok (.ref h.length) (h ++ [.lst (cutA xs lo hi)])
    | _ => .no
  | .str z => if okN z.length then .ok (.str (L2.cutS z lo hi)) h else .no
  | _ => .no
def dSl (f : De) (fl fh : Dp') : De := fun s h => (f s h).bind fun x h1 => (fl s h1).bind fun lo h2 => (fh s h2).bind fun hi h3 => kSl x lo hi h3
theorem sl_all : SlR X (fun x lo hi H Q => rSlN X.K x lo hi H Q ∨ rSlL X.K x lo hi H Q ∨ rSlS x lo hi H Q) := SlR.or sl_tupN (SlR.or sl_list sl_str)
theorem SqN.inj_len {ρ : List Addr} {H : Hp} {xs : List Va} {vs : List V} (r : Rvs g ρ H xs vs) : xs.length = vs.length := r.length
theorem cut_whole {α : Type} (xs : List α) (lo hi : Option Int) (h : HT.sIx xs.length 0 lo = 0 ∧ HT.sIx xs.length xs.length hi = xs.length) : cutA xs lo hi = xs := by
  unfold cutA
  rw [h.1, h.2]
  simp
theorem cutA_len {α : Type} (xs : List α) (lo hi : Option Int) : (cutA xs lo hi).length ≤ xs.length := by
  unfold cutA
  rw [List.length_take, List.length_drop]
  omega
theorem e_slice {f : De} {lo hi : Option Expr} {fl fh : Dp'} (he : SE g X W n e f) (hl : SO g X W n lo fl) (hh : SO g X W n hi fh) : SE g X W n (.Subscript e (.Slice lo hi none p2) pos) (dSl f fl fh) := by
  intro C
  refine (pe_slice sl_all (he C) (hl C) (hh C)).imp ?_
  rintro σ H Q ⟨ρ, s, hp, R, L, h⟩
  rw [C.K]
  refine bE h R L fun x h1 ρ1 H1 vx S1 R1 r1 L1 p1 => ?_
  refine oBE p1 R1 L1 fun lo h2 ρ2 H2 S2 R2 L2 p2 => ?_
  refine oBE p2 R2 L2 fun hi h3 ρ3 H3 S3 R3 L3 p3 => ?_
  have r3 := Rv.step R2 S3 _ _ (Rv.step R1 S2 _ _ r1)
  cases x with
  | tup xs =>
    simp only [Rv] at r3
    obtain ⟨a, vs, rfl, ht, rv⟩ := r3
    refine .inl ⟨a, vs, rfl, ht.sqT, fun w => ?_, fun w p us hn => ?_⟩
    · refine p3 ρ3 H3 _ (.refl _ _) R3 ?_
      rw [← rv.length] at w
      rw [cut_whole xs lo hi w]
      simp only [Rv]
      exact ⟨a, vs, rfl, ht, rv⟩
    · obtain ⟨S4, R4, r4⟩ := new_tup (us := us) R3 hn (rv.cut lo hi)
      exact p3 _ _ _ S4 R4 r4
  | ref i =>
    simp only [Rv] at r3
    obtain ⟨a, ha, rfl⟩ := r3
    unfold kSl at p3
    simp only at p3
    split at p3
    · rename_i xs hx
      obtain ⟨vs, e2, rv⟩ := R3.obj i a _ ha hx
      refine .inr (.inl ⟨a, vs, rfl, .inl (.inl e2), fun p hn => ?_⟩)
      obtain ⟨S4, R4, r4⟩ := new_lst R3 hn (rv.cut lo hi)
      exact p3 _ _ _ S4 R4 r4
    · exact p3.elim
  | str z =>
    unfold kSl at p3
    simp only at p3
    by_cases hz : okN z.length = true
    · rw [if_pos hz] at p3
      exact .inr (.inr ⟨z, rv_str r3, okN_le hz, p3 ρ3 H3 _ (.refl _ _) R3 mk_str⟩)
    · rw [if_neg hz] at p3; exact p3.elim
  | _ => exact p3.elim
/-! ### x[::-1] -/
def rRevN (K : PySem.W.Frag) (te : TE) : TE := fun σ H Q => te σ H fun x H1 => ∃ a xs, x = .ref a ∧ SqT K H1 a xs ∧ NewT H1 xs.reverse Q
def kRev (x : Va) (h : Hs) : Rs Va := match x with
  | .tup xs => .ok (.tup xs.reverse) h
  | .ref r => match h[r]? with
    | some (.lst xs) => .ok (.ref h.length) (h ++ [.lst xs.reverse])
    | _ => .no
  | _ => .no
def dRev (f : De) : De := fun s h => (f s h).bind kRev
/-! ### x[i] -/
def rIxD (K : PySem.W.Frag) : R2 := rIx K
def ixA {α : Type} (xs : List α) (i : Int) : Option α := L2.atI xs i
def kIx : K2 := fun x y h => match y with
  | .int i => match x with
    | .tup xs => (L2.atI xs i).map fun v => (v, h)
    | .ref r => match h[r]? with
      | some (.lst xs) => (L2.atI xs i).map fun v => (v, h)
      | _ => none
    | .str z => if okN z.length then (L2.atI z.cps.toList i).map fun c => (.str ⟨#[c]⟩, h) else none
    | _ => none
  | _ => none
theorem atI_rv {ρ : List Addr} {H : Hp} {xs : List Va} {vs : List V} {i : Int} {v : Va} (r : Rvs g ρ H xs vs) (e : L2.atI xs i = some v) : ∃ x, L2.atI vs i = some x ∧ Rv g ρ H v x := by
  unfold L2.atI at e ⊢
  rw [← r.length]
  cases hj : ixN xs.length i with
  | none => rw [hj] at e; cases e
  | some j =>
    rw [hj] at e
    exact r.get e
theorem p_ix : P2 g (rIx g.K) kIx := by
  intro ρ H hp x y vx vy v h' Q R rx ry e q
  unfold kIx at e
  split at e
  · rename_i i
    split at e
    · rename_i xs
      obtain ⟨w, hw, e⟩ := Option.map_eq_some_iff.mp e
      cases e
      simp only [Rv] at rx
      obtain ⟨a, vs, rfl, ht, rv⟩ := rx
      obtain ⟨z, hz, rz⟩ := atI_rv rv hw
      exact .inr (.inl ⟨a, vs, i, z, rfl, rv_int ry, ht.sqT, hz, q ρ H _ (.refl _ _) R rz⟩)
    · rename_i r
      split at e
      · rename_i xs hx
        obtain ⟨w, hw, e⟩ := Option.map_eq_some_iff.mp e
        cases e
        simp only [Rv] at rx
        obtain ⟨a, ha, rfl⟩ := rx
        obtain ⟨vs, e2, rv⟩ := R.obj r a _ ha hx
        obtain ⟨z, hz, rz⟩ := atI_rv rv hw
        exact .inl ⟨a, vs, i, z, rfl, rv_int ry, .inl (.inl e2), hz, q ρ H _ (.refl _ _) R rz⟩
      · cases e
    · rename_i z
      by_cases hz : okN z.length = true
      · rw [if_pos hz] at e
        obtain ⟨c, hc, e⟩ := Option.map_eq_some_iff.mp e
        cases e
        exact .inr (.inr ⟨z, i, c, rv_str rx, rv_int ry, okN_le hz, hc, q ρ H _ (.refl _ _) R mk_str⟩)
      · rw [if_neg hz] at e; cases e
    · cases e
  · cases e
theorem e_ix {a b : Expr} {fa fb : De} (ha : SE g X W n a fa) (hb : SE g X W n b fb) (hs : PlainIx b := by exact fun _ _ => rfl) : SE g X W n (.Subscript a b pos) (dOp kIx fa fb) :=
  fun C => (pe_ix ix_seq (ha C) (hb C) hs).imp fun _ _ _ h => C.K ▸ op_imp p_ix h
end

/-! ### arithmetic -/
section
variable {g : Gd} {X : Cx}
def mulOk (i j : Int) : Bool := (decide (-(2 ^ 64) < i) && decide (i < 2 ^ 64)) || (decide (-(2 ^ 64) < j) && decide (j < 2 ^ 64))
theorem mulOk_ok {i j : Int} (h : mulOk i j = true) : CMul i j := by
  unfold mulOk at h
  simp only [Bool.or_eq_true, Bool.and_eq_true, decide_eq_true_eq] at h
  exact h
def kAdd : K2 := fun x y h => match x, y with
  | .int i, .int j => some (.int (i + j), h)
  | .tup xs, .tup ys => if okN (xs.length + ys.length) then some (.tup (xs ++ ys), h) else none
  | .str a, .str b => if okN (a.length + b.length) then some (.str (a ++ b), h) else none
  | .ref r, .ref t => match h[r]? with
    | some (.lst xs) => match h[t]? with
      | some (.lst ys) => if okN (xs.length + ys.length) then some (.ref h.length, h ++ [.lst (xs ++ ys)]) else none
      | _ => none
    | _ => none
  | _, _ => none
abbrev rAddA (K : PySem.W.Frag) : R2 := fun x y H Q => (rI0 fun i j => .int (i + j)) x y H Q ∨ rCatN K x y H Q ∨ (∃ i j, x = .str i ∧ y = .str j ∧ i.length + j.length ≤ sizeLine ∧ Q (.str (i ++ j)) H) ∨ rCat x y H Q
theorem o_add : ∀ X : Cx, X.K = g.K → OpR X (binaryOp .Add) (rAddA g.K) := fun X hK => hK ▸ OpR.or op_add (OpR.or op_catN (OpR.or op_add_str op_cat))
theorem p_add : P2 g (rAddA g.K) kAdd := by
  intro ρ H hp x y vx vy v h' Q R rx ry e q
  unfold kAdd at e
  split at e
  · rename_i i j
    cases e
    exact .inl ⟨i, j, rv_int rx, rv_int ry, q ρ H _ (.refl _ _) R mk_int⟩
  · rename_i xs ys
    by_cases hz : okN (xs.length + ys.length) = true
    · rw [if_pos hz] at e
      cases e
      have rx' := rx
      have ry' := ry
      simp only [Rv] at rx ry
      obtain ⟨a, vs, rfl, ht, rv⟩ := rx
      obtain ⟨b, ws, rfl, ht2, rv2⟩ := ry
      refine .inr (.inl ⟨a, b, vs, ws, rfl, rfl, ht.sqT, ht2.sqT, by rw [← rv.length, ← rv2.length]; exact okN_le hz, fun z => ?_, fun _ z => ?_, fun _ _ p us hn => ?_⟩)
      · subst z
        have : xs = [] := List.eq_nil_of_length_eq_zero rv.length
        subst this
        exact q ρ H _ (.refl _ _) R (by simpa using ry')
      · subst z
        have : ys = [] := List.eq_nil_of_length_eq_zero rv2.length
        subst this
        exact q ρ H _ (.refl _ _) R (by simpa using rx')
      · obtain ⟨S4, R4, r4⟩ := new_tup (us := us) R hn (rv.append rv2)
        exact q _ _ _ S4 R4 r4
    · rw [if_neg hz] at e; cases e
  · rename_i a b
    by_cases hz : okN (a.length + b.length) = true
    · rw [if_pos hz] at e
      cases e
      exact .inr (.inr (.inl ⟨a, b, rv_str rx, rv_str ry, okN_le hz, q ρ H _ (.refl _ _) R mk_str⟩))
    · rw [if_neg hz] at e; cases e
  · rename_i r t
    split at e
    · rename_i xs hx
      split at e
      · rename_i ys hy
        by_cases hz : okN (xs.length + ys.length) = true
        · rw [if_pos hz] at e
          cases e
          simp only [Rv] at rx ry
          obtain ⟨a, ha, rfl⟩ := rx
          obtain ⟨b, hb, rfl⟩ := ry
          obtain ⟨vs, e2, rv⟩ := R.obj r a _ ha hx
          obtain ⟨ws, e3, rv2⟩ := R.obj t b _ hb hy
          refine .inr (.inr (.inr ⟨a, b, vs, ws, rfl, rfl, e2, e3, by rw [← rv.length, ← rv2.length]; exact okN_le hz, fun p hn => ?_⟩))
          obtain ⟨S4, R4, r4⟩ := new_lst R hn (rv.append rv2)
          exact q _ _ _ S4 R4 r4
        · rw [if_neg hz] at e; cases e
      · cases e
    · cases e
  · cases e
def kSub : K2 := kI fun i j => .int (i - j)
theorem o_sub : ∀ X : Cx, X.K = g.K → OpR X (binaryOp .Sub) (rI0 fun i j => .int (i - j)) := fun X hK => op_sub
theorem p_sub : P2 g (rI0 fun i j => .int (i - j)) kSub := p_I fun _ _ _ _ => mk_int
/-- int * int, list * int, tuple * int -/
def kMul : K2 := fun x y h => match x, y with
  | .int i, .int j => if mulOk i j then some (.int (i * j), h) else none
  | .ref r, .int k => match h[r]? with
    | some (.lst xs) => if decide (-(2 ^ 63) ≤ k) && decide (k < 2 ^ 63) && okN (xs.length * k.toNat) then some (.ref h.length, h ++ [.lst (List.replicate k.toNat xs).flatten]) else none
    | _ => none
  | _, _ => none
abbrev rMulA : R2 := fun x y H Q => (rI CMul fun i j => .int (i * j)) x y H Q ∨ rRep x y H Q
theorem o_mul : ∀ X : Cx, X.K = g.K → OpR X (binaryOp .Mult) rMulA := fun X hK => OpR.or op_mul op_rep
theorem Rvs.rep {ρ : List Addr} {H : Hp} {xs : List Va} {vs : List V} (h : Rvs g ρ H xs vs) : ∀ k : Nat, Rvs g ρ H (List.replicate k xs).flatten (List.replicate k vs).flatten
  | 0 => by simpa using Rvs.nil
  | k + 1 => by
    simp only [List.replicate_succ, List.flatten_cons]
    exact h.append (Rvs.rep h k)
theorem p_mul : P2 g rMulA kMul := by
  intro ρ H hp x y vx vy v h' Q R rx ry e q
  unfold kMul at e
  split at e
  · rename_i i j
    by_cases hz : mulOk i j = true
    · rw [if_pos hz] at e
      cases e
      exact .inl ⟨i, j, rv_int rx, rv_int ry, mulOk_ok hz, q ρ H _ (.refl _ _) R mk_int⟩
    · rw [if_neg hz] at e; cases e
  · rename_i r k
    split at e
    · rename_i xs hx
      by_cases hz : (decide (-(2 ^ 63) ≤ k) && decide (k < 2 ^ 63) && okN (xs.length * k.toNat)) = true
      · rw [if_pos hz] at e
        cases e
        simp only [Bool.and_eq_true, decide_eq_true_eq] at hz
        simp only [Rv] at rx
        obtain ⟨a, ha, rfl⟩ := rx
        obtain ⟨vs, e2, rv⟩ := R.obj r a _ ha hx
        refine .inr ⟨a, k, vs, rfl, rv_int ry, e2, hz.1.1, hz.1.2, by rw [← rv.length]; exact okN_le hz.2, fun p hn => ?_⟩
        obtain ⟨S4, R4, r4⟩ := new_lst R hn (rv.rep k.toNat)
        exact q _ _ _ S4 R4 r4
      · rw [if_neg hz] at e; cases e
    · cases e
  · cases e
def kMod : K2 := fun x y h => match x, y with
  | .int i, .int j => if decide (0 < j) then some (.int (i % j), h) else none
  | _, _ => none
theorem o_mod : ∀ X : Cx, X.K = g.K → OpR X (binaryOp .Mod) (rI (fun _ j => 0 < j) fun i j => .int (i % j)) := fun X hK => op_mod
theorem p_mod : P2 g (rI (fun _ j => 0 < j) fun i j => .int (i % j)) kMod := by
  intro ρ H hp x y vx vy v h' Q R rx ry e q
  unfold kMod at e
  split at e
  · rename_i i j
    by_cases hz : decide (0 < j) = true
    · rw [if_pos hz] at e
      cases e
      exact ⟨i, j, rv_int rx, rv_int ry, of_decide_eq_true hz, q ρ H _ (.refl _ _) R mk_int⟩
    · rw [if_neg hz] at e; cases e
  · cases e
def kFdiv : K2 := fun x y h => match x, y with
  | .int i, .int j => if decide (0 < j) && decide (j < 1073741824) then some (.int (i / j), h) else none
  | _, _ => none
theorem o_fdiv : ∀ X : Cx, X.K = g.K → OpR X (binaryOp .FloorDiv) (rI CDiv fun i j => .int (i / j)) := fun X hK => op_fdiv
theorem p_fdiv : P2 g (rI CDiv fun i j => .int (i / j)) kFdiv := by
  intro ρ H hp x y vx vy v h' Q R rx ry e q
  unfold kFdiv at e
  split at e
  · rename_i i j
    by_cases hz : (decide (0 < j) && decide (j < 1073741824)) = true
    · rw [if_pos hz] at e
      cases e
      rw [Bool.and_eq_true] at hz
      exact ⟨i, j, rv_int rx, rv_int ry, ⟨of_decide_eq_true hz.1, of_decide_eq_true hz.2⟩, q ρ H _ (.refl _ _) R mk_int⟩
    · rw [if_neg hz] at e; cases e
  · cases e
end
end Wr

set_option Elab.async false
set_option linter.all false
set_option maxRecDepth 100000
set_option maxHeartbeats 4000000
set_option autoImplicit false
namespace Wr
open PySem PySem.Spec PyProof.Rows L2

/-! ### built-ins by values -/
abbrev K1 := List Va → Hs → Option (Va × Hs)
def PC1 (g : Gd) (r : List V → Hp → VK → Prop) (k : K1) : Prop := ∀ (ρ : List Addr) (H : Hp) (hp : Hs) (xs : List Va) (vs : List V) (v : Va) (h' : Hs) (Q : VK), Rh g ρ H hp → Rvs g ρ H xs vs → k xs hp = some (v, h') →
  (∀ ρ' H' z, Sp1 ρ H ρ' H' → Rh g ρ' H' h' → Rv g ρ' H' v z → Q z H') → r vs H Q
def dB (k : K1) (f : Da) : De := fun s h => (f s h).bind fun xs h1 => liftO (k xs h1)
abbrev CallC (g : Gd) (f : Value) (r : List V → Hp → VK → Prop) : Prop := ∀ X : Cx, X.K = g.K → X.calm = true → X.A.units + 100 < cLine → CallR X f r
section
variable {g : Gd} {X : Cx} {W : WX} {n : Nat} {pos p : Pos} {e : Expr} {es : List Expr}
theorem b_imp {r : List V → Hp → VK → Prop} {k : K1} (pk : PC1 g r k) {f : Da} {σ : L2.St} {H : Hp} {Q : VK} (h : tE g W (dB k f) σ H Q) : tCB r (tA g W f) σ H Q := by
  obtain ⟨ρ, s, hp, R, L, h⟩ := h
  refine aBE h R L fun xs h1 ρ1 H1 vs S1 R1 r1 L1 p1 => ?_
  cases q : k xs h1 with
  | none => rw [q] at p1; exact p1.elim
  | some w =>
    obtain ⟨v, h2⟩ := w
    rw [q] at p1
    exact pk ρ1 H1 h1 xs vs v h2 Q R1 r1 q fun ρ2 H2 z S2 R2 r2 => p1 ρ2 H2 z S2 R2 r2
theorem e_callB {x : Str} {id : String} {f : Da} {r : List V → Hp → VK → Prop} {k : K1} (hc : CallC g (.builtin id) r) (pk : PC1 g r k) (hm : X.mg x = none) (ha : SA g X W n (e :: es) f) (hv : bootBuiltins x = some (.builtin id) := by decide +kernel) (hg : Gl X x := by rfl)
    (hn : x ≠ "__name__" := by decide) (hdb : (x == ("__debug__" : Str)) = false := by decide) (hs : starEach (e :: es) X.env = (false, eval e X.env) :: starEach es X.env := by rfl) (hpl : (backTo pos (starEach es X.env)).any (·.1) = false := by rfl) :
    SE g X W n (.Call (.Name x p) (e :: es) [] pos) (dB k f) := fun C => (pe_callB (hc X C.K C.calm C.units) hg hm hv (ha C) hn hdb hs hpl).imp fun _ _ _ h => b_imp pk h
theorem e_callT {x : Str} {T : String} {f : Da} {r : List V → Hp → VK → Prop} {k : K1} (hc : CallC g (.type T) r) (pk : PC1 g r k) (hm : X.mg x = none) (ha : SA g X W n (e :: es) f) (hv : bootBuiltins x = some (.type T) := by decide +kernel) (hg : Gl X x := by rfl)
    (hn : x ≠ "__name__" := by decide) (hdb : (x == ("__debug__" : Str)) = false := by decide) (hs : starEach (e :: es) X.env = (false, eval e X.env) :: starEach es X.env := by rfl) (hpl : (backTo pos (starEach es X.env)).any (·.1) = false := by rfl) :
    SE g X W n (.Call (.Name x p) (e :: es) [] pos) (dB k f) := fun C => (pe_callTy (hc X C.K C.calm C.units) hg hm hv (ha C) hn hdb hs hpl).imp fun _ _ _ h => b_imp pk h
end
section
variable {g : Gd}
theorem Rvs.inv1 {ρ : List Addr} {H : Hp} {x : Va} {vs : List V} (h : Rvs g ρ H [x] vs) : ∃ v, vs = [v] ∧ Rv g ρ H x v := by
  simp only [Rvs] at h
  obtain ⟨v, r, rfl, h1, rfl⟩ := h
  exact ⟨v, rfl, h1⟩
theorem Rvs.inv2 {ρ : List Addr} {H : Hp} {x y : Va} {vs : List V} (h : Rvs g ρ H [x, y] vs) : ∃ v w, vs = [v, w] ∧ Rv g ρ H x v ∧ Rv g ρ H y w := by
  simp only [Rvs] at h
  obtain ⟨v, r, rfl, h1, w, r', rfl, h2, rfl⟩ := h
  exact ⟨v, w, rfl, h1, h2⟩
/-! len -/
def kLen : K1 := fun xs h => match xs with
  | [.tup ys] => some (.int ys.length, h)
  | [.ref r] => match h[r]? with
    | some (.lst ys) => some (.int ys.length, h)
    | _ => none
  | [.str z] => if okN z.length then some (.int z.length, h) else none
  | _ => none
abbrev rLenA (K : PySem.W.Frag) : List V → Hp → VK → Prop := fun xs H Q => (∃ p ys, xs = [.ref p] ∧ (SqL K H p ys ∨ SqT K H p ys) ∧ Q (.int ys.length) H) ∨ ∃ z, xs = [.str z] ∧ z.length ≤ sizeLine ∧ Q (.int z.length) H
theorem c_len : CallC g (.builtin "len") (rLenA g.K) := fun X hK _ _ => hK ▸ CallR.or call_len_seq call_len_str
theorem p_len : PC1 g (rLenA g.K) kLen := by
  intro ρ H hp xs vs v h' Q R r e q
  unfold kLen at e
  split at e
  · rename_i ys
    cases e
    obtain ⟨w, rfl, rw'⟩ := r.inv1
    simp only [Rv] at rw'
    obtain ⟨a, us, rfl, ht, rv⟩ := rw'
    exact .inl ⟨a, us, rfl, .inr ht.sqT, by rw [← rv.length]; exact q ρ H _ (.refl _ _) R mk_int⟩
  · rename_i i
    split at e
    · rename_i ys hy
      cases e
      obtain ⟨w, rfl, rw'⟩ := r.inv1
      simp only [Rv] at rw'
      obtain ⟨a, ha, rfl⟩ := rw'
      obtain ⟨us, e2, rv⟩ := R.obj i a _ ha hy
      exact .inl ⟨a, us, rfl, .inl (.inl (.inl e2)), by rw [← rv.length]; exact q ρ H _ (.refl _ _) R mk_int⟩
    · cases e
  · rename_i z
    by_cases hz : okN z.length = true
    · rw [if_pos hz] at e
      cases e
      obtain ⟨w, rfl, rw'⟩ := r.inv1
      exact .inr ⟨z, by rw [rv_str rw'], okN_le hz, q ρ H _ (.refl _ _) R mk_int⟩
    · rw [if_neg hz] at e; cases e
  · cases e
/-! lists of bools, of intsV -/
def bls : List Va → Option (List Bool)
  | [] => some []
  | .bl b :: t => (bls t).map (b :: ·)
  | _ => none
theorem bls_rv {ρ : List Addr} {H : Hp} : ∀ {xs : List Va} {vs : List V} {bs : List Bool}, Rvs g ρ H xs vs → bls xs = some bs → vs = bs.map V.bl
  | [], _, _, r, e => by simp only [Rvs] at r; cases e; exact r
  | x :: xs, _, bs, r, e => by
    simp only [Rvs] at r
    obtain ⟨v, vr, rfl, r1, r2⟩ := r
    cases x with
    | bl b =>
      simp only [bls] at e
      obtain ⟨t, ht, rfl⟩ := Option.map_eq_some_iff.mp e
      rw [rv_bl r1, bls_rv r2 ht]
      rfl
    | _ => exact nomatch e
def intsV : List Va → Option (List Int)
  | [] => some []
  | .int b :: t => (intsV t).map (b :: ·)
  | _ => none
theorem intsV_rv {ρ : List Addr} {H : Hp} : ∀ {xs : List Va} {vs : List V} {bs : List Int}, Rvs g ρ H xs vs → intsV xs = some bs → vs = bs.map V.int
  | [], _, _, r, e => by simp only [Rvs] at r; cases e; exact r
  | x :: xs, _, bs, r, e => by
    simp only [Rvs] at r
    obtain ⟨v, vr, rfl, r1, r2⟩ := r
    cases x with
    | int b =>
      simp only [intsV] at e
      obtain ⟨t, ht, rfl⟩ := Option.map_eq_some_iff.mp e
      rw [rv_int r1, intsV_rv r2 ht]
      rfl
    | _ => exact nomatch e
theorem intsV_back {ρ : List Addr} {H : Hp} : ∀ (ns : List Int), Rvs g ρ H (ns.map Va.int) (ns.map V.int)
  | [] => Rvs.nil
  | n :: ns => Rvs.cons mk_int (intsV_back ns)
/-- the list that is the one argument -/
def lstArg (xs : List Va) (h : Hs) : Option (List Va) := match xs with
  | [.ref r] => match h[r]? with
    | some (.lst ys) => some ys
    | _ => none
  | _ => none
theorem lstArg_inv {ρ : List Addr} {H : Hp} {hp : Hs} {xs ys : List Va} {vs : List V} (R : Rh g ρ H hp) (r : Rvs g ρ H xs vs) (e : lstArg xs hp = some ys) : ∃ a us, vs = [.ref a] ∧ H a = some (.lst us) ∧ Rvs g ρ H ys us := by
  unfold lstArg at e
  split at e
  · rename_i i
    split at e
    · rename_i zs hz
      cases e
      obtain ⟨w, rfl, rw'⟩ := r.inv1
      simp only [Rv] at rw'
      obtain ⟨a, ha, rfl⟩ := rw'
      obtain ⟨us, e2, rv⟩ := R.obj i a _ ha hz
      exact ⟨a, us, rfl, e2, rv⟩
    · cases e
  · cases e
def kAll : K1 := fun xs h => (lstArg xs h).bind fun ys => (bls ys).map fun bs => (.bl (bs.all id), h)
def kAny : K1 := fun xs h => (lstArg xs h).bind fun ys => (bls ys).map fun bs => (.bl (bs.any id), h)
theorem c_all : CallC g (.builtin "all") (rAll g.K) := fun X hK hc _ => hK ▸ cr_all hc
theorem c_any : CallC g (.builtin "any") (rAny g.K) := fun X hK hc _ => hK ▸ cr_any hc
theorem p_all : PC1 g (rAll g.K) kAll := by
  intro ρ H hp xs vs v h' Q R r e q
  obtain ⟨ys, h1, e⟩ := Option.bind_eq_some_iff.mp e
  obtain ⟨bs, h2, e⟩ := Option.map_eq_some_iff.mp e
  cases e
  obtain ⟨a, us, rfl, e2, rv⟩ := lstArg_inv R r h1
  exact ⟨a, bs, rfl, by rw [← bls_rv rv h2]; exact .inl (.inl e2), q ρ H _ (.refl _ _) R mk_bl⟩
theorem p_any : PC1 g (rAny g.K) kAny := by
  intro ρ H hp xs vs v h' Q R r e q
  obtain ⟨ys, h1, e⟩ := Option.bind_eq_some_iff.mp e
  obtain ⟨bs, h2, e⟩ := Option.map_eq_some_iff.mp e
  cases e
  obtain ⟨a, us, rfl, e2, rv⟩ := lstArg_inv R r h1
  exact ⟨a, bs, rfl, by rw [← bls_rv rv h2]; exact .inl (.inl e2), q ρ H _ (.refl _ _) R mk_bl⟩
/-! sum of a list of intsV -/
def kSum : K1 := fun xs h => (lstArg xs h).bind fun ys => (intsV ys).map fun ns => (.int ns.sum, h)
theorem c_sum : CallC g (.builtin "sum") (rSum g.K) := fun X hK hc _ => hK ▸ cr_sum hc
theorem p_sum : PC1 g (rSum g.K) kSum := by
  intro ρ H hp xs vs v h' Q R r e q
  obtain ⟨ys, h1, e⟩ := Option.bind_eq_some_iff.mp e
  obtain ⟨bs, h2, e⟩ := Option.map_eq_some_iff.mp e
  cases e
  obtain ⟨a, us, rfl, e2, rv⟩ := lstArg_inv R r h1
  exact ⟨a, bs, rfl, by rw [← intsV_rv rv h2]; exact .inl (.inl e2), q ρ H _ (.refl _ _) R mk_int⟩
/-! min, max of a list of intsV -/
def minI : Int → List Int → Int
  | m, [] => m
  | m, x :: t => minI (if x < m then x else m) t
def maxI : Int → List Int → Int
  | m, [] => m
  | m, x :: t => maxI (if m < x then x else m) t
theorem minI_mem : ∀ (t : List Int) (m : Int), (minI m t = m ∨ minI m t ∈ t) ∧ minI m t ≤ m ∧ ∀ y ∈ t, minI m t ≤ y
  | [], m => ⟨.inl rfl, Int.le_refl _, fun _ h => nomatch h⟩
  | x :: t, m => by
    unfold minI
    obtain ⟨h1, h2, h3⟩ := minI_mem t (if x < m then x else m)
    by_cases hx : x < m
    · simp only [if_pos hx] at h1 h2 h3 ⊢
      refine ⟨.inr ?_, by omega, fun y hy => ?_⟩
      · rcases h1 with h1 | h1
        · rw [h1]; exact List.mem_cons_self
        · exact List.mem_cons_of_mem _ h1
      · rcases List.mem_cons.mp hy with rfl | hy
        · exact h2
        · exact h3 y hy
    · simp only [if_neg hx] at h1 h2 h3 ⊢
      refine ⟨?_, h2, fun y hy => ?_⟩
      · rcases h1 with h1 | h1
        · exact .inl h1
        · exact .inr (List.mem_cons_of_mem _ h1)
      · rcases List.mem_cons.mp hy with rfl | hy
        · omega
        · exact h3 y hy
theorem maxI_mem : ∀ (t : List Int) (m : Int), (maxI m t = m ∨ maxI m t ∈ t) ∧ m ≤ maxI m t ∧ ∀ y ∈ t, y ≤ maxI m t
  | [], m => ⟨.inl rfl, Int.le_refl _, fun _ h => nomatch h⟩
  | x :: t, m => by
    unfold maxI
    obtain ⟨h1, h2, h3⟩ := maxI_mem t (if m < x then x else m)
    by_cases hx : m < x
    · simp only [if_pos hx] at h1 h2 h3 ⊢
      refine ⟨.inr ?_, by omega, fun y hy => ?_⟩
      · rcases h1 with h1 | h1
        · rw [h1]; exact List.mem_cons_self
        · exact List.mem_cons_of_mem _ h1
      · rcases List.mem_cons.mp hy with rfl | hy
        · exact h2
        · exact h3 y hy
    · simp only [if_neg hx] at h1 h2 h3 ⊢
      refine ⟨?_, h2, fun y hy => ?_⟩
      · rcases h1 with h1 | h1
        · exact .inl h1
        · exact .inr (List.mem_cons_of_mem _ h1)
      · rcases List.mem_cons.mp hy with rfl | hy
        · omega
        · exact h3 y hy
def kMin : K1 := fun xs h => match xs with
  | [.int i, .int j] => some (.int (if j < i then j else i), h)
  | _ => (lstArg xs h).bind fun ys => (intsV ys).bind fun ns => match ns with
    | [] => none
    | m :: t => some (.int (minI m t), h)
def kMax : K1 := fun xs h => match xs with
  | [.int i, .int j] => some (.int (if j > i then j else i), h)
  | _ => (lstArg xs h).bind fun ys => (intsV ys).bind fun ns => match ns with
    | [] => none
    | m :: t => some (.int (maxI m t), h)
abbrev rMinA (K : PySem.W.Frag) : List V → Hp → VK → Prop := fun xs H Q => (∃ i j, xs = [.int i, .int j] ∧ Q (.int (if j < i then j else i)) H) ∨ rMin K xs H Q
abbrev rMaxA (K : PySem.W.Frag) : List V → Hp → VK → Prop := fun xs H Q => (∃ i j, xs = [.int i, .int j] ∧ Q (.int (if j > i then j else i)) H) ∨ rMax K xs H Q
theorem c_min : CallC g (.builtin "min") (rMinA g.K) := fun X hK hc _ => hK ▸ CallR.or (call_min2 hc) (cr_min hc)
theorem c_max : CallC g (.builtin "max") (rMaxA g.K) := fun X hK hc _ => hK ▸ CallR.or (call_max2 hc) (cr_max hc)
theorem p_min : PC1 g (rMinA g.K) kMin := by
  intro ρ H hp xs vs v h' Q R r e q
  unfold kMin at e
  split at e
  · cases e
    exact .inl ⟨_, _, r.int2, q ρ H _ (.refl _ _) R mk_int⟩
  · obtain ⟨ys, h1, e⟩ := Option.bind_eq_some_iff.mp e
    obtain ⟨bs, h2, e⟩ := Option.bind_eq_some_iff.mp e
    obtain ⟨a, us, rfl, e2, rv⟩ := lstArg_inv R r h1
    cases bs with
    | nil => cases e
    | cons m t =>
      cases e
      obtain ⟨k1, k2, k3⟩ := minI_mem t m
      refine .inr ⟨a, m :: t, rfl, by rw [← intsV_rv rv h2]; exact .inl (.inl e2), by simp, fun z hz hle => ?_⟩
      have : z = minI m t := by
        have a1 : z ≤ minI m t := by
          rcases k1 with k1 | k1
          · rw [k1]; exact hle m List.mem_cons_self
          · exact hle _ (List.mem_cons_of_mem _ k1)
        have a2 : minI m t ≤ z := by
          rcases List.mem_cons.mp hz with rfl | hz
          · exact k2
          · exact k3 z hz
        omega
      rw [this]
      exact q ρ H _ (.refl _ _) R mk_int
theorem p_max : PC1 g (rMaxA g.K) kMax := by
  intro ρ H hp xs vs v h' Q R r e q
  unfold kMax at e
  split at e
  · cases e
    exact .inl ⟨_, _, r.int2, q ρ H _ (.refl _ _) R mk_int⟩
  · obtain ⟨ys, h1, e⟩ := Option.bind_eq_some_iff.mp e
    obtain ⟨bs, h2, e⟩ := Option.bind_eq_some_iff.mp e
    obtain ⟨a, us, rfl, e2, rv⟩ := lstArg_inv R r h1
    cases bs with
    | nil => cases e
    | cons m t =>
      cases e
      obtain ⟨k1, k2, k3⟩ := maxI_mem t m
      refine .inr ⟨a, m :: t, rfl, by rw [← intsV_rv rv h2]; exact .inl (.inl e2), by simp, fun z hz hle => ?_⟩
      have : z = maxI m t := by
        have a1 : maxI m t ≤ z := by
          rcases k1 with k1 | k1
          · rw [k1]; exact hle m List.mem_cons_self
          · exact hle _ (List.mem_cons_of_mem _ k1)
        have a2 : z ≤ maxI m t := by
          rcases List.mem_cons.mp hz with rfl | hz
          · exact k2
          · exact k3 z hz
        omega
      rw [this]
      exact q ρ H _ (.refl _ _) R mk_int
/-! tuple(..), list(..), int(..) -/
def kTuple : K1 := fun xs h => match xs with
  | [.tup ys] => some (.tup ys, h)
  | _ => (lstArg xs h).map fun ys => (.tup ys, h)
theorem c_tuple : CallC g (.type "tuple") (rTupOf g.K) := fun X hK _ _ => hK ▸ cr_tuple
theorem p_tuple : PC1 g (rTupOf g.K) kTuple := by
  intro ρ H hp xs vs v h' Q R r e q
  unfold kTuple at e
  split at e
  · cases e
    obtain ⟨w, rfl, rw'⟩ := r.inv1
    have rw2 := rw'
    simp only [Rv] at rw'
    obtain ⟨a, us, rfl, ht, rv⟩ := rw'
    exact ⟨a, us, rfl, .inr ⟨ht.sqT, q ρ H _ (.refl _ _) R rw2⟩⟩
  · obtain ⟨ys, h1, e⟩ := Option.map_eq_some_iff.mp e
    cases e
    obtain ⟨a, us, rfl, e2, rv⟩ := lstArg_inv R r h1
    refine ⟨a, us, rfl, .inl ⟨.inl (.inl e2), fun p ws hn => ?_⟩⟩
    obtain ⟨S4, R4, r4⟩ := new_tup (us := ws) R hn rv
    exact q _ _ _ S4 R4 r4
def kList : K1 := fun xs h => match xs with
  | [.tup ys] => some (.ref h.length, h ++ [.lst ys])
  | _ => (lstArg xs h).map fun ys => (.ref h.length, h ++ [.lst ys])
abbrev rListOf (K : PySem.W.Frag) : List V → Hp → VK → Prop := fun xs H Q => ∃ p ys, xs = [.ref p] ∧ (SqL K H p ys ∨ SqT K H p ys) ∧ ∀ l, H l = none → Q (.ref l) (upd H l (.lst ys))
theorem c_list : CallC g (.type "list") (rListOf g.K) := fun X hK _ _ => hK ▸ call_list_of
theorem p_list : PC1 g (rListOf g.K) kList := by
  intro ρ H hp xs vs v h' Q R r e q
  unfold kList at e
  split at e
  · cases e
    obtain ⟨w, rfl, rw'⟩ := r.inv1
    simp only [Rv] at rw'
    obtain ⟨a, us, rfl, ht, rv⟩ := rw'
    refine ⟨a, us, rfl, .inr ht.sqT, fun p hn => ?_⟩
    obtain ⟨S4, R4, r4⟩ := new_lst R hn rv
    exact q _ _ _ S4 R4 r4
  · obtain ⟨ys, h1, e⟩ := Option.map_eq_some_iff.mp e
    cases e
    obtain ⟨a, us, rfl, e2, rv⟩ := lstArg_inv R r h1
    refine ⟨a, us, rfl, .inl (.inl (.inl e2)), fun p hn => ?_⟩
    obtain ⟨S4, R4, r4⟩ := new_lst R hn rv
    exact q _ _ _ S4 R4 r4
def kInt : K1 := fun xs h => match xs with
  | [.int i] => some (.int i, h)
  | [.bl b] => some (.int (if b then 1 else 0), h)
  | _ => none
abbrev rIntOf : List V → Hp → VK → Prop := fun xs H Q => (∃ i, xs = [.int i] ∧ Q (.int i) H) ∨ ∃ k, xs = [.bl k] ∧ Q (.int (if k then 1 else 0)) H
theorem c_int : CallC g (.type "int") rIntOf := fun X hK _ _ => call_int1
theorem p_int : PC1 g rIntOf kInt := by
  intro ρ H hp xs vs v h' Q R r e q
  unfold kInt at e
  split at e
  · cases e
    exact .inl ⟨_, r.int1, q ρ H _ (.refl _ _) R mk_int⟩
  · cases e
    obtain ⟨w, rfl, rw'⟩ := r.inv1
    exact .inr ⟨_, by rw [rv_bl rw'], q ρ H _ (.refl _ _) R mk_int⟩
  · cases e
/-! isinstance(x, a built-in class) -/
def tyOf (x : Va) (h : Hs) : Option String := match x with
  | .non => some "NoneType"
  | .bl _ => some "bool"
  | .int _ => some "int"
  | .str _ => some "str"
  | .tup _ => some "tuple"
  | .ref r => match h[r]? with
    | some (.lst _) => some "list"
    | some (.dK _) => some "dict"
    | _ => none
  | _ => none
/-- the answers that are asked, worked out once -/
def isiT (a b : String) : Option Bool :=
  if b == "int" then some (a == "int" || a == "bool") else if b == "bool" then some (a == "bool") else if b == "tuple" then some (a == "tuple") else if b == "str" then some (a == "str") else if b == "list" then some (a == "list") else none
def kIsi : K1 := fun xs h => match xs with
  | [x, .ty b] => match tyOf x h with
    | some a => (isiT a b).map fun r => (.bl r, h)
    | none => none
  | _ => none
theorem tyOf_ty {ρ : List Addr} {H : Hp} {hp : Hs} {x : Va} {v : V} {a : String} (R : Rh g ρ H hp) (r : Rv g ρ H x v) (e : tyOf x hp = some a) : TyX g.K H v (.type a) ∧ a ∈ ["NoneType", "bool", "int", "str", "tuple", "list", "dict"] := by
  cases x with
  | non => cases e; rw [rv_non r]; exact ⟨.base .non, by decide⟩
  | bl b => cases e; rw [rv_bl r]; exact ⟨.base (.bl b), by decide⟩
  | int i => cases e; rw [rv_int r]; exact ⟨.base (.int i), by decide⟩
  | str z => cases e; rw [rv_str r]; exact ⟨.base (.str z), by decide⟩
  | tup xs =>
    cases e
    simp only [Rv] at r
    obtain ⟨p, us, rfl, ht, rv⟩ := r
    rcases ht with ⟨o, h1, _⟩ | ⟨o, its, m, h1, h2, _⟩
    · exact ⟨.fTuple h1, by decide⟩
    · exact ⟨.kTuple h1 h2, by decide⟩
  | ref i =>
    simp only [Rv] at r
    obtain ⟨p, ha, rfl⟩ := r
    unfold tyOf at e
    simp only at e
    split at e
    · rename_i ys hy
      cases e
      obtain ⟨us, e2, rv⟩ := R.obj i p _ ha hy
      exact ⟨.base (.lst e2), by decide⟩
    · rename_i ys hy
      cases e
      obtain ⟨us, e2, rv⟩ := R.obj i p _ ha hy
      exact ⟨.base (.dK e2), by decide⟩
    · cases e
  | _ => exact nomatch e
theorem isiT_ok : ∀ a ∈ ["NoneType", "bool", "int", "str", "tuple", "list", "dict"], ∀ b ∈ ["int", "bool", "tuple", "str", "list"], kitB a b = isiT a b := by decide +kernel
theorem isiT_cls {a b : String} {r : Bool} (h : isiT a b = some r) : b ∈ ["int", "bool", "tuple", "str", "list"] := by
  unfold isiT at h
  by_cases h1 : b = "int"
  · subst h1; decide
  by_cases h2 : b = "bool"
  · subst h2; decide
  by_cases h3 : b = "tuple"
  · subst h3; decide
  by_cases h4 : b = "str"
  · subst h4; decide
  by_cases h5 : b = "list"
  · subst h5; decide
  simp [h1, h2, h3, h4, h5] at h
theorem c_isi : CallC g (.builtin "isinstance") (rIsi g.K) := fun X hK _ _ => hK ▸ call_isi
theorem p_isi : PC1 g (rIsi g.K) kIsi := by
  intro ρ H hp xs vs v h' Q R r e q
  unfold kIsi at e
  split at e
  · rename_i x b
    split at e
    · rename_i a ha
      obtain ⟨t, ht, e⟩ := Option.map_eq_some_iff.mp e
      cases e
      obtain ⟨w, w2, rfl, r1, r2⟩ := r.inv2
      obtain ⟨ty, hm⟩ := tyOf_ty R r1 ha
      exact ⟨w, .ty b, .type a, .type b, t, by rw [rv_ty r2], .ty b, ty, kit_ty (by rw [isiT_ok a hm b (isiT_cls ht)]; exact ht), q ρ H _ (.refl _ _) R mk_bl⟩
    · cases e
  · cases e
end
end Wr

set_option Elab.async false
set_option linter.all false
set_option maxRecDepth 100000
set_option maxHeartbeats 4000000
set_option autoImplicit false
namespace Wr
open PySem PySem.Spec PyProof.Rows L2

/-! ### methods of built-in types -/
def tyN (K : PySem.W.Frag) (T : String) (x : V) (H : Hp) : Prop := tyV K T x H ∨ (T = "tuple" ∧ ∃ a xs, x = .ref a ∧ SqN K H a xs)
section
variable {X : Cx}
theorem tyN_is {pins : List (Addr × Obj)} {σ : L2.St} {H : Hp} {s : Shared} {T : String} {x : V} {v : Value} (I : Inv X pins σ H s) (r : RelV x v) (ty : tyN X.K T x H) : s.TypeIs v T ∧ ∀ a, v = .ref a → ∃ ob, s.heap.get? a = some ob ∧ ob.dict = none := by
  rcases ty with ty | ⟨rfl, a, xs, rfl, h⟩
  · exact tyV_is I r ty
  · cases r
    rcases h with ⟨o, h1, h2⟩ | ⟨o, its, m, h1, h2, h3, _⟩
    · obtain ⟨e, _, _, _, o2, e2, c2, _⟩ := I.hok a _ h1
      rw [e] at e2; cases e2
      exact ⟨⟨o, e, c2⟩, fun b z => by cases z; exact ⟨o, e, h2⟩⟩
    · exact ⟨⟨o, I.kIn a o h1, h2⟩, fun b z => by cases z; exact ⟨o, I.kIn a o h1, h3⟩⟩
def tBMN (K : PySem.W.Frag) (T : String) (r : V → List V → Hp → VK → Prop) (to : TE) (t : TA) : TE := fun σ H Q => to σ H fun x H1 => tyN K T x H1 ∧ t σ H1 fun xs H2 => r x xs H2 Q
variable {o e : Expr} {es : List Expr} {to : TE} {t : TA} {name : Str} {apos cpos : Pos} {T id : String} {r : V → List V → Hp → VK → Prop}
/-- what the text of a method's call is to be like -/
structure MForm (X : Cx) (o : Expr) (name : Str) (e : Expr) (es : List Expr) (apos cpos : Pos) : Prop where
  base : attributeBase o name X.env (eval o X.env) = eval o X.env
  few : ((backTo cpos (starEach (e :: es) X.env)).all (fun x => !x.1) && (backToKw cpos (keywordEach [] X.env)).all (fun x => x.1.isSome)
      && decide ((e :: es).length + ([] : List Keyword).length + (if ([] : List Keyword).isEmpty then 0 else 1) < 30)) = true
  line : (apos.endLine == cpos.line) = true
  star : starEach (e :: es) X.env = (false, eval e X.env) :: starEach es X.env
  plain : (backTo cpos (starEach es X.env)).any (·.1) = false
theorem pe_bmN (M : MForm X o name e es apos cpos) (pa : PlainAttrs T) (slot : Slot T name id) (hty : typeOf (.builtin id) = pure (.type "method_descriptor")) (hm : MtR X id r) (ho : PE X o to) (ha : PA X (e :: es) t) :
    PE X (.Call (.Attribute o name apos) (e :: es) [] cpos) (tBMN X.K T r to t) := by
  constructor
  intro pins s σ H Q I h
  refine wpAny_Call_method_late M.base M.few M.line rfl (thn (ho.run pins s σ H _ I h) ?_)
  rintro v s1 ⟨x, H1, I1, r1, ty, q1⟩
  obtain ⟨h1, h2⟩ := tyN_is I1 r1 ty
  refine ⟨T, id, pa, slot, hty, h1, h2, ?_⟩
  have hA := ha.run cpos pins s1 σ H1 _ I1 q1
  have st := M.star
  rw [st] at hA ⊢
  have pl : ((false, eval e X.env) :: backTo cpos (starEach es X.env)).any (·.1) = false := by rw [List.any_cons, M.plain]; rfl
  refine Calls.callWith_builtin pl (Calls.evalArgs_plain (thn hA ?_))
  rintro us s2 ⟨vs, H2, I2, r2, q2⟩
  exact hm pins s2 σ H2 x vs v us Q I2 r1 r2 q2
theorem _root_.L2.PE.or {X : Cx} {e : Expr} {t t' : TE} (h : PE X e t) (h' : PE X e t') : PE X e (fun σ H Q => t σ H Q ∨ t' σ H Q) := ⟨fun pins s σ H Q I w => by
  rcases w with w | w
  · exact h.run pins s σ H Q I w
  · exact h'.run pins s σ H Q I w⟩
end
abbrev KM := Va → List Va → Hs → Option (Va × Hs)
def PM1 (g : Gd) (r : V → List V → Hp → VK → Prop) (k : KM) : Prop := ∀ (ρ : List Addr) (H : Hp) (hp : Hs) (x : Va) (vx : V) (xs : List Va) (vs : List V) (v : Va) (h' : Hs) (Q : VK), Rh g ρ H hp → Rv g ρ H x vx → Rvs g ρ H xs vs → k x xs hp = some (v, h') →
  (∀ ρ' H' z, Sp1 ρ H ρ' H' → Rh g ρ' H' h' → Rv g ρ' H' v z → Q z H') → r vx vs H Q
def isTy (T : String) (x : Va) (h : Hs) : Bool := match x with
  | .tup _ => T == "tuple"
  | .str _ => T == "str"
  | .ref r => match h[r]? with
    | some (.lst _) => T == "list"
    | _ => false
  | _ => false
def dM (T : String) (k : KM) (fo : De) (fa : Da) : De := fun s h => (fo s h).bind fun x h1 => match isTy T x h1 with
  | true => (fa s h1).bind fun xs h2 => liftO (k x xs h2)
  | false => .no
/-- one of two types by the value -/
def dM2 (T : String) (k : KM) (T2 : String) (k2 : KM) (fo : De) (fa : Da) : De := fun s h => (fo s h).bind fun x h1 => match isTy T x h1 with
  | true => (fa s h1).bind fun xs h2 => liftO (k x xs h2)
  | false => match isTy T2 x h1 with
    | true => (fa s h1).bind fun xs h2 => liftO (k2 x xs h2)
    | false => .no
abbrev MtC (g : Gd) (id : String) (r : V → List V → Hp → VK → Prop) : Prop := ∀ X : Cx, X.K = g.K → X.A.units + 100 < cLine → MtR X id r
section
variable {g : Gd} {X : Cx} {W : WX} {n : Nat} {o e : Expr} {es : List Expr} {name : Str} {apos cpos : Pos} {T id : String} {r : V → List V → Hp → VK → Prop} {k : KM} {fo : De} {fa : Da}
theorem isTy_ok {ρ : List Addr} {H : Hp} {hp : Hs} {x : Va} {vx : V} (R : Rh g ρ H hp) (rx : Rv g ρ H x vx) (h : isTy T x hp = true) : tyN g.K T vx H := by
  cases x with
  | tup xs =>
    have : T = "tuple" := by simpa [isTy] using h
    subst this
    simp only [Rv] at rx
    obtain ⟨a, us, rfl, ht, rv⟩ := rx
    exact .inr ⟨rfl, a, us, rfl, ht⟩
  | str z =>
    have : T = "str" := by simpa [isTy] using h
    rw [rv_str rx]
    exact .inl this
  | ref i =>
    simp only [Rv] at rx
    obtain ⟨a, ha, rfl⟩ := rx
    unfold isTy at h
    simp only at h
    split at h
    · rename_i ys hy
      obtain ⟨us, e2, rv⟩ := R.obj i a _ ha hy
      exact .inl (.inl ⟨by simpa using h, us, .inl (.inl e2)⟩)
    · cases h
  | _ => exact nomatch h
theorem m_imp (pk : PM1 g r k) {σ : L2.St} {H : Hp} {Q : VK} (h : tE g W (dM T k fo fa) σ H Q) : tBMN g.K T r (tE g W fo) (tA g W fa) σ H Q := by
  obtain ⟨ρ, s, hp, R, L, h⟩ := h
  refine bE h R L fun x h1 ρ1 H1 vx S1 R1 r1 L1 p1 => ?_
  cases ty : isTy T x h1 with
  | false => rw [ty] at p1; exact p1.elim
  | true =>
    rw [ty] at p1
    refine ⟨isTy_ok R1 r1 ty, aBE p1 R1 L1 fun xs h2 ρ2 H2 vs S2 R2 r2 L2 p2 => ?_⟩
    cases q : k x xs h2 with
    | none => rw [q] at p2; exact p2.elim
    | some w =>
      obtain ⟨v, h3⟩ := w
      rw [q] at p2
      exact pk ρ2 H2 h2 x vx xs vs v h3 Q R2 (Rv.step R1 S2 _ _ r1) r2 q fun ρ3 H3 z S3 R3 r3 => p2 ρ3 H3 z S3 R3 r3
theorem e_meth (pa : PlainAttrs T) (slot : Slot T name id) (hty : typeOf (.builtin id) = pure (.type "method_descriptor")) (hm : MtC g id r) (pk : PM1 g r k) (ho : SE g X W n o fo) (ha : SA g X W n (e :: es) fa) (M : MForm X o name e es apos cpos := by exact ⟨rfl, rfl, rfl, rfl, rfl⟩) :
    SE g X W n (.Call (.Attribute o name apos) (e :: es) [] cpos) (dM T k fo fa) :=
  fun C => (pe_bmN M pa slot hty (hm X C.K C.units) (ho C) (ha C)).imp fun _ _ _ h => C.K ▸ m_imp pk h
theorem e_meth2 {T2 id2 : String} {r2 : V → List V → Hp → VK → Prop} {k2 : KM} (pa : PlainAttrs T) (slot : Slot T name id) (hty : typeOf (.builtin id) = pure (.type "method_descriptor")) (hm : MtC g id r) (pk : PM1 g r k)
    (pa2 : PlainAttrs T2) (slot2 : Slot T2 name id2) (hty2 : typeOf (.builtin id2) = pure (.type "method_descriptor")) (hm2 : MtC g id2 r2) (pk2 : PM1 g r2 k2) (ho : SE g X W n o fo) (ha : SA g X W n (e :: es) fa) (M : MForm X o name e es apos cpos := by exact ⟨rfl, rfl, rfl, rfl, rfl⟩) :
    SE g X W n (.Call (.Attribute o name apos) (e :: es) [] cpos) (dM2 T k T2 k2 fo fa) := by
  intro C
  refine (PE.or (pe_bmN M pa slot hty (hm X C.K C.units) (ho C) (ha C)) (pe_bmN M pa2 slot2 hty2 (hm2 X C.K C.units) (ho C) (ha C))).imp ?_
  rintro σ H Q ⟨ρ, s, hp, R, L, h⟩
  rw [C.K]
  unfold dM2 at h
  cases q : fo s hp with
  | no => rw [q] at h; exact h.elim
  | ex c h1 => rw [q] at h; exact .inl ⟨ρ, s, hp, R, L, by rw [q]; exact h⟩
  | ok x h1 =>
    rw [q] at h
    simp only [Rs.bind] at h
    cases ty : isTy T x h1 with
    | true =>
      rw [ty] at h
      refine .inl (m_imp pk ⟨ρ, s, hp, R, L, ?_⟩)
      unfold dM
      rw [q]
      simp only [Rs.bind, ty]
      exact h
    | false =>
      rw [ty] at h
      simp only at h
      cases ty2 : isTy T2 x h1 with
      | true =>
        rw [ty2] at h
        refine .inr (m_imp pk2 ⟨ρ, s, hp, R, L, ?_⟩)
        unfold dM
        rw [q]
        simp only [Rs.bind, ty2]
        exact h
      | false => rw [ty2] at h; exact h.elim
/-! append, extend -/
def kAppend : KM := fun x xs h => match x, xs with
  | .ref r, [y] => match h[r]? with
    | some (.lst ys) => if okN (ys.length + 1) then some (.non, h.set r (.lst (ys ++ [y]))) else none
    | _ => none
  | _, _ => none
theorem put_lst {ρ : List Addr} {H : Hp} {hp : Hs} {i : Nat} {a : Addr} {us ws : List V} {ys : List Va} (R : Rh g ρ H hp) (hi : ρ[i]? = some a) (e : H a = some (.lst us)) (rv : Rvs g ρ H ys ws) :
    Sp1 ρ H ρ (upd H a (.lst ws)) ∧ Rh g ρ (upd H a (.lst ws)) (hp.set i (.lst ys)) :=
  R.put hi (fun x y z => by rw [e] at z; cases z) fun S => ⟨ws, upd_same, Rvs.step R S _ _ rv⟩
theorem m_append : MtC g "list.append" rAppend := fun X hK hu => mt_append
theorem pm_append : PM1 g rAppend kAppend := by
  intro ρ H hp x vx xs vs v h' Q R rx r e q
  unfold kAppend at e
  split at e
  · rename_i i y
    split at e
    · rename_i ys hy
      by_cases hz : okN (ys.length + 1) = true
      · rw [if_pos hz] at e
        cases e
        simp only [Rv] at rx
        obtain ⟨a, ha, rfl⟩ := rx
        obtain ⟨us, e2, rv⟩ := R.obj i a _ ha hy
        obtain ⟨w, rfl, rw'⟩ := r.inv1
        obtain ⟨S1, R1⟩ := put_lst R ha e2 (rv.append (Rvs.one rw'))
        exact ⟨a, us, w, rfl, rfl, e2, by rw [← rv.length]; exact okN_le hz, q _ _ _ S1 R1 mk_non⟩
      · rw [if_neg hz] at e; cases e
    · cases e
  · cases e
def kExtend : KM := fun x xs h => match x, xs with
  | .ref r, [.ref t] => match h[r]? with
    | some (.lst ys) => match h[t]? with
      | some (.lst zs) => if okN (ys.length + zs.length) then some (.non, h.set r (.lst (ys ++ zs))) else none
      | _ => none
    | _ => none
  | _, _ => none
theorem m_extend : MtC g "list.extend" rExtend := fun X hK hu => mt_extend
theorem pm_extend : PM1 g rExtend kExtend := by
  intro ρ H hp x vx xs vs v h' Q R rx r e q
  unfold kExtend at e
  split at e
  · rename_i i t
    split at e
    · rename_i ys hy
      split at e
      · rename_i zs hzs
        by_cases hz : okN (ys.length + zs.length) = true
        · rw [if_pos hz] at e
          cases e
          simp only [Rv] at rx
          obtain ⟨a, ha, rfl⟩ := rx
          obtain ⟨us, e2, rv⟩ := R.obj i a _ ha hy
          obtain ⟨w, rfl, rw'⟩ := r.inv1
          simp only [Rv] at rw'
          obtain ⟨b, hb, rfl⟩ := rw'
          obtain ⟨us2, e3, rv2⟩ := R.obj t b _ hb hzs
          obtain ⟨S1, R1⟩ := put_lst R ha e2 (rv.append rv2)
          exact ⟨a, b, us, us2, rfl, rfl, e2, e3, by rw [← rv.length, ← rv2.length]; exact okN_le hz, q _ _ _ S1 R1 mk_non⟩
        · rw [if_neg hz] at e; cases e
      · cases e
    · cases e
  · cases e
/-! index -/
def findD (d : PyData) : List PyData → Option Nat
  | [] => none
  | z :: t => if PyData.eqv z d then some 0 else (findD d t).map (· + 1)
theorem findD_ok {d : PyData} : ∀ {ds : List PyData} {j : Nat}, findD d ds = some j → ∃ z, ds[j]? = some z ∧ PyData.eqv z d = true ∧ ∀ (m : Nat) (z' : PyData), m < j → ds[m]? = some z' → PyData.eqv z' d = false
  | [], _, h => by cases h
  | z :: t, j, h => by
    unfold findD at h
    by_cases hz : PyData.eqv z d = true
    · rw [if_pos hz] at h
      cases h
      exact ⟨z, rfl, hz, fun m z' hm => absurd hm (Nat.not_lt_zero _)⟩
    · rw [if_neg hz] at h
      obtain ⟨i, hi, rfl⟩ := Option.map_eq_some_iff.mp h
      obtain ⟨w, h1, h2, h3⟩ := findD_ok hi
      refine ⟨w, by simpa using h1, h2, fun m z' hm hz' => ?_⟩
      cases m with
      | zero => simp at hz'; subst hz'; simpa using hz
      | succ m => exact h3 m z' (by omega) (by simpa using hz')
def kIndex : KM := fun x xs h => match xs with
  | [y] => match toD h 9 y with
    | some d => match toD h 9 x with
      | some (.list ds) => (findD d ds).map fun (j : Nat) => (.int (j : Int), h)
      | some (.tuple ds) => (findD d ds).map fun (j : Nat) => (.int (j : Int), h)
      | _ => none
    | none => none
  | _ => none
/-- t.index(x) of a tuple of data -/
def rIndexT (K : PySem.W.Frag) : V → List V → Hp → VK → Prop := fun x xs H Q => ∃ (y : V) (d : PyData) (ds : List PyData) (j : Nat), xs = [y] ∧ Dp K H x (.tuple ds) ∧ Dp K H y d ∧
  SeqAt.shaped (.tuple ds) = true ∧ SeqAt.shaped d = true ∧ findD d ds = some j ∧ Q (.int (j : Nat)) H
theorem m_indexT : MtC g "tuple.index" (rIndexT g.K) := by
  intro X hK hu pins s σ H x xs v us Q I rx rxs h
  rw [← hK] at h
  obtain ⟨y, d, ds, j, rfl, hl, hy, sl, sd, hf, q⟩ := h
  obtain ⟨uy, rfl, ry⟩ := vals1 rxs
  obtain ⟨z, hz, hzj, hno⟩ := findD_ok hf
  obtain ⟨bs, r1⟩ := Dp.reads I d y uy hy ry
  obtain ⟨as, r2⟩ := Dp.reads I (.tuple ds) x v hl rx
  have lay : PyData.canLayAll0 ds = true := SeqAt.canLay_of_shaped sl
  have room : X.A.units + 1 + min (PyData.depthAll ds) d.depth < cLine := PyProof.Rows.room_in_shaped sd (by omega)
  cases r2 with
  | tuple h1 h2 h3 h4 =>
    rename_i a o its m
    obtain ⟨cls, dd, data, sls⟩ := o
    simp only at h2 h3
    subst h2 h3
    have hn : its.toList.length = ds.length := SeqAt.ReadsAll.length ds its.toList _ h4
    have hmap : its.toList.map (SeqAt.readOf s.heap) = ds := SeqAt.readsAll_map ds its.toList _ lay h4
    have hjd : j < ds.length := (List.getElem?_eq_some_iff.mp hz).1
    have hj : j < its.size := by rw [← Array.length_toList, hn]; exact hjd
    have at_ : ∀ (m : Nat) (hm : m < its.size) (z' : PyData), ds[m]? = some z' → SeqAt.readOf s.heap its[m] = z' := by
      intro m hm z' hz'
      rw [← hmap, List.getElem?_map, List.getElem?_eq_getElem (by simpa using hm)] at hz'
      simpa using hz'
    refine call_meets PySem.F.slot_tuple_index ⟨_, h1, rfl⟩ PySem.F.entry_tuple_index (PySem.F.args_tuple_index_2 _ _)
      (TI.tuple_indexAt a its m dd sls uy (fun u => PyData.eqv (SeqAt.readOf s.heap u) d) j hj ?_ ?_) ⟨h1, SeqAt.items_eqAt (vs := its) h4 r1 lay (SeqAt.canLay_of_shaped sd) room, ⟨.int (j : Nat), H, I.tok _, ⟨_, rfl⟩, q⟩⟩
    · show PyData.eqv (SeqAt.readOf s.heap its[j]) d = true
      rw [at_ j hj z hz]; exact hzj
    · intro m hm hmj
      have hmd : m < ds.length := by omega
      show PyData.eqv (SeqAt.readOf s.heap its[m]) d = false
      rw [at_ m hm _ (List.getElem?_eq_getElem hmd)]
      exact hno m _ hmj (List.getElem?_eq_getElem hmd)
theorem pm_indexT : PM1 g (rIndexT g.K) (fun x xs h => match x with
    | .tup _ => kIndex x xs h
    | _ => none) := by
  intro ρ H hp x vx xs vs v h' Q R rx r e q
  simp only at e
  split at e
  · unfold kIndex at e
    split at e
    · split at e
      · rename_i d hd
        obtain ⟨w, rfl, rw'⟩ := r.inv1
        split at e
        · rename_i ds hds
          unfold toD at hds
          obtain ⟨_, _, z⟩ := Option.map_eq_some_iff.mp hds
          cases z
        · rename_i ds hds
          obtain ⟨j, hj, e⟩ := Option.map_eq_some_iff.mp e
          cases e
          exact ⟨w, d, ds, j, rfl, toD_dp R 9 _ vx _ rx hds, toD_dp R 9 _ w d rw' hd, toD_shaped hds, toD_shaped hd, hj, q ρ H _ (.refl _ _) R mk_int⟩
        · cases e
      · cases e
    · cases e
  · cases e
def kIndexT : KM := fun x xs h => match x with
  | .tup _ => kIndex x xs h
  | _ => none
def kIndexL : KM := fun x xs h => match x with
  | .ref _ => kIndex x xs h
  | _ => none
theorem m_indexL : MtC g "list.index" (rIndexD g.K) := fun X hK hu => hK ▸ mt_indexD (by omega)
theorem pm_indexL : PM1 g (rIndexD g.K) kIndexL := by
  intro ρ H hp x vx xs vs v h' Q R rx r e q
  unfold kIndexL at e
  split at e
  · rename_i i
    have rx' := rx
    simp only [Rv] at rx'
    obtain ⟨a, ha, rfl⟩ := rx'
    unfold kIndex at e
    split at e
    · split at e
      · rename_i d hd
        obtain ⟨w, rfl, rw'⟩ := r.inv1
        split at e
        · rename_i ds hds
          obtain ⟨j, hj, e⟩ := Option.map_eq_some_iff.mp e
          cases e
          obtain ⟨z, hz, hzj, hno⟩ := findD_ok hj
          exact ⟨a, w, d, ds, j, z, rfl, rfl, toD_dp R 9 _ _ _ rx hds, toD_dp R 9 _ w d rw' hd, toD_shaped hds, toD_shaped hd, hz, hzj, hno, q ρ H _ (.refl _ _) R mk_int⟩
        · rename_i ds hds
          unfold toD at hds
          split at hds
          · obtain ⟨_, _, z⟩ := Option.map_eq_some_iff.mp hds
            cases z
          · cases hds
        · cases e
      · cases e
    · cases e
  · cases e
theorem e_index {fo : De} {fa : Da} (ho : SE g X W n o fo) (ha : SA g X W n [e] fa) (M : MForm X o "index" e [] apos cpos := by exact ⟨rfl, rfl, rfl, rfl, rfl⟩) :
    SE g X W n (.Call (.Attribute o "index" apos) [e] [] cpos) (dM2 "tuple" kIndexT "list" kIndexL fo fa) :=
  e_meth2 PySem.F.plainAttrs_tuple PySem.F.slot_tuple_index PySem.F.type_tuple_index m_indexT pm_indexT PySem.F.plainAttrs_list PySem.F.slot_list_index PySem.F.type_list_index m_indexL pm_indexL ho ha M
theorem e_append {fo : De} {fa : Da} (ho : SE g X W n o fo) (ha : SA g X W n [e] fa) (M : MForm X o "append" e [] apos cpos := by exact ⟨rfl, rfl, rfl, rfl, rfl⟩) :
    SE g X W n (.Call (.Attribute o "append" apos) [e] [] cpos) (dM "list" kAppend fo fa) :=
  e_meth PySem.F.plainAttrs_list PySem.F.slot_list_append PySem.F.type_list_append m_append pm_append ho ha M
theorem e_extend {fo : De} {fa : Da} (ho : SE g X W n o fo) (ha : SA g X W n [e] fa) (M : MForm X o "extend" e [] apos cpos := by exact ⟨rfl, rfl, rfl, rfl, rfl⟩) :
    SE g X W n (.Call (.Attribute o "extend" apos) [e] [] cpos) (dM "list" kExtend fo fa) :=
  e_meth PySem.F.plainAttrs_list PySem.F.slot_list_extend PySem.F.type_list_extend m_extend pm_extend ho ha M
end
end Wr

set_option Elab.async false
set_option linter.all false
set_option maxRecDepth 100000
set_option maxHeartbeats 4000000
set_option autoImplicit false
namespace Wr
open PySem PySem.Spec PyProof.Rows L2

/-! ### t[::-1] of a tuple -/
theorem rev_adjust (n : Nat) : Builtin.Slice.sliceAdjust none none (-1) (n : Int) = ((n : Int) - 1, -1) := by
  unfold Builtin.Slice.sliceAdjust
  simp
theorem rev_places (n : Nat) : Builtin.Slice.slicePlaces ((n : Int) - 1) (-1) (-1) = n := by
  unfold Builtin.Slice.slicePlaces
  have h1 : ¬ ((-1 : Int) > 0) := by omega
  simp only [h1, if_false]
  by_cases h : (-1 : Int) < (n : Int) - 1
  · rw [if_pos h]
    have : ((n : Int) - 1 - -1 - 1) / - -1 + 1 = (n : Int) := by simp
    omega
  · rw [if_neg h]; omega
theorem fm_map {α β : Type} {f : α → Option β} {g : α → β} : ∀ {l : List α}, (∀ k ∈ l, f k = some (g k)) → l.filterMap f = l.map g
  | [], _ => rfl
  | x :: l, h => by
    rw [List.filterMap_cons, h x List.mem_cons_self, List.map_cons, fm_map fun k hk => h k (List.mem_cons_of_mem _ hk)]
theorem rev_pick (xs : Array Value) : ((List.range xs.size).filterMap fun (k : Nat) => xs[(((xs.size : Int) - 1) + (k : Int) * (-1)).toNat]?).toArray = xs.toList.reverse.toArray := by
  congr 1
  apply List.ext_getElem?
  intro i
  have e : ∀ k ∈ List.range xs.size, (fun (k : Nat) => xs[(((xs.size : Int) - 1) + (k : Int) * (-1)).toNat]?) k = some ((fun k => xs.getD (xs.size - 1 - k) .none) k) := by
    intro k hk
    have hk := List.mem_range.mp hk
    have e1 : (((xs.size : Int) - 1) + (k : Int) * (-1)).toNat = xs.size - 1 - k := by omega
    have hl : xs.size - 1 - k < xs.size := by omega
    simp only [e1]
    rw [Array.getElem?_eq_getElem hl]
    simp [Array.getD, hl]
  rw [fm_map e]
  by_cases hi : i < xs.size
  · have hl : xs.size - 1 - i < xs.size := by omega
    rw [List.getElem?_map, List.getElem?_range hi, List.getElem?_reverse (by simpa using hi)]
    simp [Array.getD, hl]
  · rw [List.getElem?_map, List.getElem?_eq_none (by simp; omega), List.getElem?_eq_none (by simp; omega)]
    rfl
section
variable {prog : Program} {w : World} {A : Around} {E : Value → Shared → Prop} {s : Shared}
theorem rev_applied {sl : Addr} {vl vu vs : Value} {n : Nat} {Q : Int × Int × Nat → Shared → Prop} (hs : s.heap.IsSliceOf sl vl vu vs) (pl : IsPart vl none) (pu : IsPart vu none) (ps : IsPart vs (some (-1))) (h : Q ((n : Int) - 1, -1, n) s) :
    wpAny (model prog w) A (Builtin.Slice.sliceApplied (.ref sl) (pure (n : Int))) Q E s := by
  obtain ⟨os, hos, hcs, hds⟩ := id hs
  unfold Builtin.Slice.sliceApplied Builtin.Slice.sliceFields
  refine wpAny_bind (wpAny_bind (wpAny_field hos hds (x := vl) rfl (wpAny_bind (wpAny_field hos hds (x := vu) rfl (wpAny_bind (wpAny_field hos hds (x := vs) rfl (wpAny_pure ?_)))))))
  refine wpAny_bind (HT.slicePart_ ps ?_)
  show wpAny _ _ (if ((-1 : Int) == 0) = true then _ else _) _ _ s
  rw [if_neg (by decide)]
  refine wpAny_bind (HT.slicePart_ pl (wpAny_bind (HT.slicePart_ pu (wpAny_bind (wpAny_pure ?_)))))
  show wpAny _ _ (match Builtin.Slice.sliceAdjust none none (-1) (n : Int) with | (lo, hi) => pure (lo, (-1 : Int), Builtin.Slice.slicePlaces lo hi (-1))) _ _ s
  rw [rev_adjust n]
  show wpAny _ _ (pure ((n : Int) - 1, (-1 : Int), Builtin.Slice.slicePlaces ((n : Int) - 1) (-1) (-1))) _ _ s
  rw [rev_places]
  exact wpAny_pure h
theorem getItem_tuple_rev {t sl : Addr} {items : Array Value} {vl vu vs : Value} {Q : Value → Shared → Prop} (ht : IsTup s.heap t items) (hs : s.heap.IsSliceOf sl vl vu vs) (pl : IsPart vl none) (pu : IsPart vu none) (ps : IsPart vs (some (-1)))
    (h : Q (.ref s.heap.objs.size) { s with heap := s.heap.push (tupO items.toList.reverse) }) (hsz : items.size ≤ sizeLine) : wpAny (model prog w) A (getItem (.ref t) (.ref sl)) Q E s := by
  have htake : sizeOk (.seq items.toList.reverse.toArray) := by
    show items.toList.reverse.toArray.size ≤ sizeLine
    simpa using hsz
  obtain ⟨os, hos, hcs, hds⟩ := id hs
  have hTs : s.TypeIs (.ref sl) "slice" := ⟨os, hos, hcs⟩
  unfold getItem
  try with_reducible refine wpAny_holding ?_
  first | refine wpAny_bind (wpAny_pure ?_) | skip
  refine wpAny_bind (wpAny_sequenceKey ht.typeIs (by decide) ?_)
  refine wpAny_bind (wpAny_callSpecial?_slot (name := Str.ofString "__getitem__") ht.typeIs PyProof.Rows.slot_tuple_getitem (wpAny_call_entry PyProof.Rows.slot_tuple_getitem ht.typeIs entry_tuple_getitem ?_ (args_tuple_getitem _ _)))
  show wpAny _ _ (Builtin.Tuple.tupleItemsOf (.ref t) >>= _) _ _ s
  refine wpAny_bind (tupleItemsOf_ ht (wpAny_bind (wpAny_typeOf hTs ?_)))
  rw [if_pos (by decide)]
  refine wpAny_bind (rev_applied hs pl pu ps ?_)
  have hno : ¬ (((((items.size : Int) - 1) : Int) == 0 && (-1 : Int) == 1 && items.size == items.size) = true) := by simp
  show wpAny _ _ (if ((((items.size : Int) - 1) : Int) == 0 && (-1 : Int) == 1 && items.size == items.size) = true then _ else _) _ _ s
  rw [if_neg hno, rev_pick]
  first
    | exact wpAny_bind (m := Builtin.Tuple.tupleExact _) (wpAny_newObj_type (wpAny_pure ⟨_, rfl, wpAny_pure h⟩) htake)
    | exact wpAny_bind (m := Builtin.Tuple.tupleExact _) (wpAny_newObj_type (wpAny_bind (wpAny_pure (wpAny_pure ⟨_, rfl, wpAny_pure h⟩))) htake)
    | exact wpAny_bind (wpAny_bind (m := Builtin.Tuple.tupleExact _) (wpAny_newObj_type (wpAny_pure (wpAny_pure ⟨_, rfl, wpAny_pure h⟩)) htake))
    | exact wpAny_bind (wpAny_bind (m := Builtin.Tuple.tupleExact _) (wpAny_newObj_type (wpAny_pure ⟨_, rfl, wpAny_pure h⟩) htake))
end
section
variable {g : Gd} {X : Cx} {W : WX} {n : Nat} {pos p1 p2 p3 : Pos} {e : Expr} {k : Nat}
theorem Vals.rev {xs : List V} {us : List Value} (r : Vals xs us) : Vals xs.reverse us.reverse := r.reverse
theorem pe_revN {te : TE} (he : PE X e te) : PE X (.Subscript e (.Slice none none (some (.UnaryOp .USub (.Constant (.int 1) k p1) p2)) p3) pos) (rRevN X.K te) := by
  constructor
  intro pins s σ H Q I h
  refine Subscript_ (thn (he.run pins s σ H _ I h) ?_)
  rintro v s1 ⟨x, H1, I1, r1, a, xs, rfl, hx, q⟩
  cases r1
  have step : PO X (some (.UnaryOp .USub (.Constant (.int 1) k p1) p2)) (tPart (tUn (rU fun i => .int (-i)) (tC (.int 1)))) := po_some (pe_un un_neg pe_int)
  refine wpAny_Slice (thn (po_none.run pins s1 σ H1 (fun o H2 => o = none ∧ H2 = H1) I1 ⟨rfl, rfl⟩) ?_)
  rintro vl s2 ⟨l, H2, I2, pl, rfl, rfl⟩
  refine thn (po_none.run pins s2 σ H2 (fun o H3 => o = none ∧ H3 = H2) I2 ⟨rfl, rfl⟩) ?_
  rintro vu s3 ⟨u, H3, I3, pu, rfl, rfl⟩
  refine thn (step.run pins s3 σ H3 (fun o H4 => o = some (-1) ∧ H4 = H3) I3 ⟨1, rfl, -1, rfl, rfl, rfl⟩) ?_
  rintro vs s4 ⟨o, H4, I4, ps, rfl, rfl⟩
  have I5 : Inv X pins σ H4 { s4 with heap := s4.heap.push { cls := .type "slice", data := .fields #[vl, vu, vs] } } := I4.kept (t' := s4.toks) fun b ob q => Heap.get?_push_of_some _ q
  obtain ⟨its, r, ht, hz⟩ := I5.tuple hx
  show wpAny (model X.prog X.w) X.A (subscriptTail e (.Slice none none (some (.UnaryOp .USub (.Constant (.int 1) k p1) p2)) p3) (.ref a) (.ref s4.heap.objs.size)) (EP X pins σ Q) X.xe { s4 with heap := s4.heap.push { cls := .type "slice", data := .fields #[vl, vu, vs] } }
  refine tail_any (ops := [.ref a, .ref s4.heap.objs.size]) ht.typeIs PyProof.Rows.slot_tuple_getitem.lookup ?_ (by with_unfolding_all rfl)
  refine getItem_tuple_rev ht (Heap.IsSliceOf.new _ vl vu vs) pl pu ps ?_ (by rw [List.size_toArray, ← r.length]; exact hz)
  exact EP.newN (s := { s4 with heap := s4.heap.push { cls := .type "slice", data := .fields #[vl, vu, vs] } }) (t' := s4.toks) I5 (fun b ob q => Heap.get?_push_of_some _ q) (Nat.le_refl _) (Heap.get?_push_size _ rfl) r.reverse (by simpa using hz) q
theorem e_rev {f : De} (he : SE g X W n e f) : SE g X W n (.Subscript e (.Slice none none (some (.UnaryOp .USub (.Constant (.int 1) k p1) p2)) p3) pos) (dRev f) := by
  intro C
  refine (PE.or (pe_revN (he C)) (pe_revL (he C))).imp ?_
  rintro σ H Q ⟨ρ, s, hp, R, L, h⟩
  rw [C.K]
  unfold dRev at h
  cases q : f s hp with
  | no => rw [q] at h; exact h.elim
  | ex c h1 => rw [q] at h; exact .inl ⟨ρ, s, hp, R, L, by rw [q]; exact h⟩
  | ok x h1 =>
    rw [q] at h
    simp only [Rs.bind] at h
    cases x with
    | tup xs =>
      refine .inl ⟨ρ, s, hp, R, L, ?_⟩
      rw [q]
      intro ρ1 H1 vx S1 R1 r1
      simp only [Rv] at r1
      obtain ⟨a, vs, rfl, ht, rv⟩ := r1
      refine ⟨a, vs, rfl, ht.sqT, fun p us hn => ?_⟩
      obtain ⟨S2, R2, r2⟩ := new_tup (us := us) R1 hn rv.reverse
      exact h _ _ _ (S1.trans S2) R2 r2
    | ref i =>
      unfold kRev at h
      simp only at h
      split at h
      · rename_i xs hx
        refine .inr ⟨ρ, s, hp, R, L, ?_⟩
        rw [q]
        intro ρ1 H1 vx S1 R1 r1
        simp only [Rv] at r1
        obtain ⟨a, ha, rfl⟩ := r1
        obtain ⟨vs, e2, rv⟩ := R1.obj i a _ ha hx
        refine ⟨a, vs, rfl, .inl (.inl e2), fun p hn => ?_⟩
        obtain ⟨S2, R2, r2⟩ := new_lst R1 hn rv.reverse
        exact h _ _ _ (S1.trans S2) R2 r2
      · exact h.elim
    | _ => exact h.elim
end
end Wr

set_option Elab.async false
set_option linter.all false
set_option maxRecDepth 100000
set_option maxHeartbeats 4000000
set_option autoImplicit false
namespace Wr
open PySem PySem.Spec PyProof.Rows L2

/-! ### sorted(set(xs)) of a list of ints -/
section
variable {P : Program} {w : World} {A : Around} {E : Value → Shared → Prop} {s : Shared}
abbrev newSt (w : World) : Obj := { cls := .type "set", dict := none, data := .set #[] 0 (.fresh 0 0 (!w.params.followText "set-order")) }
theorem set_of_list {l : Addr} {items : Array Value} (ns : List Int) {Q : Value → Shared → Prop} (hh : A.handled = none) (hl : s.heap.IsList l items) (hit : IntsAre items.toList ns) (hb : ns.length + 1 < scanBound)
    (h : ∀ (h' : Heap) (tk c : Nat), SetR w h' s.heap.objs.size (fun j => decide (j ∈ ns)) c → c ≤ ns.length → (∀ b o, s.heap.get? b = some o → h'.get? b = some o) → Q (.ref s.heap.objs.size) { s with heap := h', toks := tk }) :
    wpAny (model P w) A (call (.type "set") [.ref l]) Q E s := by
  have hisz : items.size = ns.length := by rw [← Array.length_toList]; exact IntsAre.length hit
  obtain ⟨c, tl, hmro⟩ := F.called_set.mro
  have hmade := F.called_set.made
  have hsub := F.called_set.sub
  refine wpAny_call (codeAny_of_tree ?_)
  show wpAny _ _ (callAny (.type "set") _) _ _ _
  refine wpAny_pure ⟨Code.quiet_builtin _ (by decide +kernel), codeAny_builtin F.entry_type_call ?_⟩
  rw [Around.under_plain (weight_type_call_type "set" [.ref l] []) rfl]
  have h1 := F.called_set.notType
  have h2 := F.called_set.canCreate
  have hct := F.typeCall_set_1 (.ref l)
  repeat (any_goals (first | assumption | wp_step))
  refine codeAny_mono (code_set_led1 (.ref l) (E := E) (Q₁ := fun obj s₁ => obj = .ref s.heap.objs.size ∧ s₁ = { s with heap := s.heap.push (newSt w) }) ⟨rfl, rfl⟩) fun r s₁ hr => ?_
  cases r with
  | error e => exact hr
  | ok fl =>
    cases fl with
    | ret obj =>
      obtain ⟨rfl, rfl⟩ := hr
      have hS : (s.heap.push (newSt w)).get? s.heap.objs.size = some (newSt w) := Heap.get?_push_size _ rfl
      have hT : Shared.TypeIs { s with heap := s.heap.push (newSt w) } (.ref s.heap.objs.size) "set" := ⟨_, hS, rfl⟩
      have hli := F.called_set.init.lookup
      have hbi := F.called_set.init.bind (.ref s.heap.objs.size)
      repeat (any_goals (first | assumption | wp_step))
      refine codeAny_mono (codeAny_call_builtin (R := wants (fun r s₂ => r = .none ∧ ∃ h' tk c, s₂ = { s with heap := h', toks := tk } ∧ SetR w h' s.heap.objs.size (fun j => decide (j ∈ ns)) c ∧ c ≤ ns.length ∧
          (∀ b o, s.heap.get? b = some o → h'.get? b = some o)) E) F.called_set.init.plain F.entry_set_init (check_set_init_1 hT ?_)) fun r₂ s₂ hr₂ => ?_
      · obtain ⟨ol, hol, hcl, nl, hdl⟩ := hl
        obtain ⟨ocls, odict, odata, oslots⟩ := ol
        simp only at hcl hdl
        subst hcl; subst hdl
        have hol' : (s.heap.push (newSt w)).get? l = some { cls := .type "list", dict := odict, data := .seq items nl, slots := oslots } := Heap.get?_push_of_some _ hol
        have hsls := F.sub_list_set
        have hslf := F.sub_list_frozenset
        have hne : (Value.type "list" == Value.type "dict") = false := by decide
        have hl1 : (s.heap.push (newSt w)).IsList l items := ⟨_, hol', rfl, nl, rfl⟩
        unfold Builtin.«set.__init__» noKeywords Builtin.Frozenset.updateFrom
        generalize hPI : pyIter = PI
        wp_walk
        subst hPI
        refine wpAny_pyIter_list hl1 ?_
        refine wpAny_bind (wpAny_runValue ?_)
        have hlS : l < s.heap.objs.size := Heap.lt_size hol
        have hh3 : A.in1.in1.in1.handled = none := by simp [hh]
        have hneI : l ≠ (s.heap.push (newSt w)).objs.size := by
          rw [Heap.size_push]; exact Nat.ne_of_lt (Nat.lt_succ_of_lt hlS)
        have hSf : s.heap.objs.size ∉ [(s.heap.push (newSt w)).objs.size, l] := by
          rw [Heap.size_push]; simp only [List.mem_cons, List.mem_singleton, List.not_mem_nil, or_false, not_or]
          exact ⟨Nat.ne_of_lt (Nat.lt_succ_self _), Nat.ne_of_gt hlS⟩
        have hval : ∀ (i : Nat) (v : Value), items[i]? = some v → ∃ k t, ns[i]? = some k ∧ v = .int k t := fun i v hv => by
          have hi : i < ns.length := by rw [← hisz]; exact (Array.getElem?_eq_some_iff.mp hv).1
          obtain ⟨t, e⟩ := PyProof.Rows.IntsAre.int_at hit i v (by rw [Array.getElem?_toList]; exact hv)
          refine ⟨ns[i], t, List.getElem?_eq_getElem hi, ?_⟩
          rw [e, List.getD_eq_getElem?_getD, List.getElem?_eq_getElem hi] <;> rfl
        refine set_update_ints ((Walks.list hh3 _ l hneI items).toS) s.heap.objs.size
          hSf ns hisz hb hval (items.size - 0) 0 _ (by omega) (Nat.zero_le _)
          ⟨⟨_, Heap.get?_push_size _ rfl, rfl, rfl⟩, (hl1.push _)⟩ ?hS0 ?hR
        case hS0 => exact ⟨0, Nat.le_refl 0, setR_new_at (Heap.get?_push_of_some _ hS)⟩
        case hR =>
          intro s' c' hm hc' hS'
          obtain ⟨h', g2, d', tk', os'⟩ := s'
          have eg : g2 = s.gens := hm.gens
          have ed : d' = s.drawn := hm.drawn
          have eo : os' = s.os := hm.os
          subst eg; subst ed; subst eo
          show wpAny _ _ _ _ _ _
          refine wpAny_pure ?_
          show wpAny _ _ (ret Value.none) _ _ _
          rw [hisz] at hc'
          refine wpAny_pure ⟨rfl, h', tk', c', rfl, hS', hc', fun b o e => ?_⟩
          have hb0 : b < s.heap.objs.size := Heap.lt_size e
          have hb2 : b ≠ (s.heap.push (newSt w)).objs.size := by
            rw [Heap.size_push]; exact Nat.ne_of_lt (Nat.lt_succ_of_lt hb0)
          exact hm.heap b o (by simp only [List.mem_cons, List.mem_singleton, List.not_mem_nil, or_false, not_or]; exact ⟨Nat.ne_of_lt hb0, hb2⟩) (Heap.get?_push_of_some _ (Heap.get?_push_of_some _ e))
      · cases r₂ with
        | error e => exact hr₂
        | ok fl₂ =>
          cases fl₂ with
          | ret r =>
            obtain ⟨rfl, h', tk, c', rfl, hS', hc', hk'⟩ := hr₂
            repeat (any_goals (first | assumption | wp_step))
            exact h _ _ _ hS' hc' hk'
          | _ => exact hr₂.elim
    | _ => exact hr.elim
end
/-- set(xs), ints -/
def rSetI (K : PySem.W.Frag) (w : World) : List V → Hp → VK → Prop := fun xs H Q => ∃ (l : Addr) (ns : List Int), xs = [V.ref l] ∧ SqL K H l (ns.map V.int) ∧ ns.length < 64 ∧
  ∀ (p : Addr) (c : Nat), H p = none → c ≤ ns.length → Q (.ref p) (upd H p (SetO w p (fun j => decide (j ∈ ns)) c))
theorem cr_setI {X : Cx} (hc : X.calm = true) : CallR X (.type "set") (rSetI X.K X.w) := by
  intro pins s σ H xs us Q I r h
  obtain ⟨l, ns, rfl, hl, hn, q⟩ := h
  rw [Vals.ref1 r]
  obtain ⟨its, rv, pl, hz⟩ := I.list hl
  refine set_of_list ns (I.ok.hd hc) pl.isList (by simpa using ints_of_vals rv) (by have : (64 : Nat) + 1 < scanBound := by decide
                                                                                    omega) fun h' tk c R hcl k => ?_
  exact ⟨.ref s.heap.objs.size, _, I.laid (t' := tk) k (Nat.le_refl _) (setO_new R), rfl, q _ c (I.hok.fresh (Nat.le_refl _)) hcl⟩
end Wr

set_option Elab.async false
set_option linter.all false
set_option maxRecDepth 100000
set_option maxHeartbeats 4000000
set_option autoImplicit false
namespace Wr
open PySem PySem.Spec PyProof.Rows L2

/-! ### sorted of ints -/
def insI (x : Int) : List Int → List Int
  | [] => [x]
  | y :: t => if decide (x ≤ y) then x :: y :: t else y :: insI x t
def sortI : List Int → List Int
  | [] => []
  | x :: t => insI x (sortI t)
def insU (x : Int) : List Int → List Int
  | [] => [x]
  | y :: t => if decide (x < y) then x :: y :: t else if decide (x = y) then y :: t else y :: insU x t
def sortU : List Int → List Int
  | [] => []
  | x :: t => insU x (sortU t)
theorem insI_perm (x : Int) : ∀ l : List Int, (insI x l).Perm (x :: l)
  | [] => .refl _
  | y :: t => by
    unfold insI
    split
    · exact .refl _
    · exact ((insI_perm x t).cons y).trans (.swap x y t)
theorem sortI_perm : ∀ l : List Int, (sortI l).Perm l
  | [] => .refl _
  | x :: t => (insI_perm x (sortI t)).trans ((sortI_perm t).cons x)
theorem insI_sorted (x : Int) : ∀ l : List Int, l.Pairwise (· ≤ ·) → (insI x l).Pairwise (· ≤ ·)
  | [], _ => by simp [insI]
  | y :: t, h => by
    unfold insI
    split
    · rename_i c
      have c := of_decide_eq_true c
      refine List.pairwise_cons.mpr ⟨fun z hz => ?_, h⟩
      rcases List.mem_cons.mp hz with e | e
      · omega
      · have := (List.pairwise_cons.mp h).1 z e
        omega
    · rename_i c
      have c : ¬ x ≤ y := fun z => c (decide_eq_true z)
      obtain ⟨h1, h2⟩ := List.pairwise_cons.mp h
      refine List.pairwise_cons.mpr ⟨fun z hz => ?_, insI_sorted x t h2⟩
      rcases List.mem_cons.mp ((insI_perm x t).mem_iff.mp hz) with e | e
      · omega
      · exact h1 z e
theorem sortI_sorted : ∀ l : List Int, (sortI l).Pairwise (· ≤ ·)
  | [] => .nil
  | x :: t => insI_sorted x _ (sortI_sorted t)
theorem sorted_same : ∀ {a b : List Int}, a.Perm b → a.Pairwise (· ≤ ·) → b.Pairwise (· ≤ ·) → a = b
  | [], b, p, _, _ => by have := p.length_eq; cases b with
    | nil => rfl
    | cons _ _ => simp at this
  | x :: t, [], p, _, _ => by have := p.length_eq; simp at this
  | x :: t, y :: u, p, ha, hb => by
    obtain ⟨a1, a2⟩ := List.pairwise_cons.mp ha
    obtain ⟨b1, b2⟩ := List.pairwise_cons.mp hb
    have e : x = y := by
      have h1 : x ∈ y :: u := p.mem_iff.mp List.mem_cons_self
      have h2 : y ∈ x :: t := p.mem_iff.mpr List.mem_cons_self
      rcases List.mem_cons.mp h1 with e | e
      · exact e
      · rcases List.mem_cons.mp h2 with e2 | e2
        · exact e2.symm
        · have := a1 y e2
          have := b1 x e
          omega
    subst e
    rw [sorted_same ((List.perm_cons x).mp p) a2 b2]
theorem insU_mem (x : Int) : ∀ (l : List Int) (z : Int), z ∈ insU x l ↔ z = x ∨ z ∈ l
  | [], z => by simp [insU]
  | y :: t, z => by
    unfold insU
    split
    · simp
    · split
      · rename_i c
        have c := of_decide_eq_true c
        subst c
        simp
      · rw [List.mem_cons, insU_mem x t z, List.mem_cons]
        constructor
        · rintro (h | h | h)
          · exact .inr (.inl h)
          · exact .inl h
          · exact .inr (.inr h)
        · rintro (h | h | h)
          · exact .inr (.inl h)
          · exact .inl h
          · exact .inr (.inr h)
theorem sortU_mem : ∀ (l : List Int) (z : Int), z ∈ sortU l ↔ z ∈ l
  | [], z => by simp [sortU]
  | x :: t, z => by unfold sortU; rw [insU_mem, sortU_mem t z, List.mem_cons]
theorem insU_sorted (x : Int) : ∀ l : List Int, l.Pairwise (· < ·) → (insU x l).Pairwise (· < ·)
  | [], _ => by simp [insU]
  | y :: t, h => by
    obtain ⟨h1, h2⟩ := List.pairwise_cons.mp h
    unfold insU
    split
    · rename_i c
      have c := of_decide_eq_true c
      refine List.pairwise_cons.mpr ⟨fun z hz => ?_, h⟩
      rcases List.mem_cons.mp hz with e | e
      · omega
      · have := h1 z e
        omega
    · rename_i c
      have c : ¬ x < y := fun z => c (decide_eq_true z)
      split
      · exact h
      · rename_i d
        have d : ¬ x = y := fun z => d (decide_eq_true z)
        refine List.pairwise_cons.mpr ⟨fun z hz => ?_, insU_sorted x t h2⟩
        rcases (insU_mem x t z).mp hz with e | e
        · omega
        · exact h1 z e
theorem sortU_sorted : ∀ l : List Int, (sortU l).Pairwise (· < ·)
  | [] => .nil
  | x :: t => insU_sorted x _ (sortU_sorted t)
theorem rising_same : ∀ {a b : List Int}, (∀ z, z ∈ a ↔ z ∈ b) → a.Pairwise (· < ·) → b.Pairwise (· < ·) → a = b
  | [], [], _, _, _ => rfl
  | [], y :: u, p, _, _ => by have := (p y).mpr List.mem_cons_self; simp at this
  | x :: t, [], p, _, _ => by have := (p x).mp List.mem_cons_self; simp at this
  | x :: t, y :: u, p, ha, hb => by
    obtain ⟨a1, a2⟩ := List.pairwise_cons.mp ha
    obtain ⟨b1, b2⟩ := List.pairwise_cons.mp hb
    have e : x = y := by
      rcases List.mem_cons.mp ((p x).mp List.mem_cons_self) with e | e
      · exact e
      · rcases List.mem_cons.mp ((p y).mpr List.mem_cons_self) with e2 | e2
        · exact e2.symm
        · have := a1 y e2
          have := b1 x e
          omega
    subst e
    rw [rising_same (fun z => ⟨fun h => ?_, fun h => ?_⟩) a2 b2]
    · rcases List.mem_cons.mp ((p z).mp (List.mem_cons_of_mem _ h)) with e | e
      · have := a1 z h; omega
      · exact e
    · rcases List.mem_cons.mp ((p z).mpr (List.mem_cons_of_mem _ h)) with e | e
      · have := b1 z h; omega
      · exact e
section
variable {g : Gd}
def kSortI : K1 := fun xs h => (lstArg xs h).bind fun ys => (intsV ys).map fun ns => (.ref h.length, h ++ [.lst ((sortI ns).map Va.int)])
theorem c_sortI : CallC g (.builtin "sorted") (rSortedI g.K) := fun X hK _ _ => hK ▸ cr_sortedI
theorem p_sortI : PC1 g (rSortedI g.K) kSortI := by
  intro ρ H hp xs vs v h' Q R r e q
  obtain ⟨ys, h1, e⟩ := Option.bind_eq_some_iff.mp e
  obtain ⟨ns, h2, e⟩ := Option.map_eq_some_iff.mp e
  cases e
  obtain ⟨a, us, rfl, e2, rv⟩ := lstArg_inv R r h1
  have := intsV_rv rv h2
  subst this
  refine ⟨a, ns, rfl, .inl (.inl e2), fun ns' p hp1 hs hn => ?_⟩
  obtain rfl := sorted_same (hp1.trans (sortI_perm ns).symm) hs (sortI_sorted ns)
  obtain ⟨S4, R4, r4⟩ := new_lst R hn (intsV_back (g := g) (sortI ns))
  exact q _ _ _ S4 R4 r4
/-- sorted(set(xs)), ints -/
def kSortU : K1 := fun xs h => (lstArg xs h).bind fun ys => (intsV ys).bind fun ns => if decide (ns.length < 64) then some (.ref h.length, h ++ [.lst ((sortU ns).map Va.int)]) else none
end
section
variable {g : Gd} {X : Cx} {W : WX} {n : Nat} {pos p pos2 p2 : Pos} {e : Expr}
theorem e_sortU {f : Da} (hm : X.mg "sorted" = none) (hm2 : X.mg "set" = none) (ha : SA g X W n [e] f)
    (hg : Gl X "sorted" := by rfl) (hg2 : Gl X "set" := by rfl)
    (hs : starEach [.Call (.Name "set" p2) [e] [] pos2] X.env = (false, eval (.Call (.Name "set" p2) [e] [] pos2) X.env) :: starEach [] X.env := by rfl)
    (hpl : (backTo pos (starEach [] X.env)).any (·.1) = false := by rfl)
    (hs2 : starEach [e] X.env = (false, eval e X.env) :: starEach [] X.env := by rfl) (hpl2 : (backTo pos2 (starEach [] X.env)).any (·.1) = false := by rfl) :
    SE g X W n (.Call (.Name "sorted" p) [.Call (.Name "set" p2) [e] [] pos2] [] pos) (dB kSortU f) := by
  intro C
  have inner := pe_callTy (p := p2) (T := "set") (cr_setI C.calm) hg2 hm2 (by decide +kernel) (ha C) (by decide) (by decide) hs2 hpl2
  have outer := pe_callB (p := p) (id := "sorted") (cr_sortedSet C.calm) hg hm (by decide +kernel) (pa_cons inner pa_nil hs) (by decide) (by decide) hs hpl
  refine outer.imp ?_
  rintro σ H Q ⟨ρ, s, hp, R, L, h⟩
  refine aBE h R L fun xs h1 ρ1 H1 vs S1 R1 r1 L1 p1 => ?_
  cases q : kSortU xs h1 with
  | none => rw [q] at p1; exact p1.elim
  | some w =>
    rw [q] at p1
    obtain ⟨ys, e1, q⟩ := Option.bind_eq_some_iff.mp q
    obtain ⟨ns, e2, q⟩ := Option.bind_eq_some_iff.mp q
    by_cases hl : ns.length < 64
    · rw [if_pos (decide_eq_true hl)] at q
      cases q
      obtain ⟨a, us, rfl, e3, rv⟩ := lstArg_inv R1 r1 e1
      have := intsV_rv rv e2
      subst this
      refine ⟨a, ns, rfl, .inl (.inl e3), hl, fun p c hn hc => ?_⟩
      obtain ⟨S2, R2⟩ := R1.laid (u := SetO X.w p (fun j => decide (j ∈ ns)) c) hn
      refine ⟨p, _, c, rfl, upd_same, by omega, fun ns' p2 h1 h2 h3 hn2 => ?_⟩
      obtain rfl := rising_same (a := ns') (b := sortU ns) (fun z => by rw [h2 z, sortU_mem]; simp) h1 (sortU_sorted ns)
      obtain ⟨S4, R4, r4⟩ := new_lst R2 hn2 (intsV_back (g := g) (sortU ns))
      exact p1 _ _ _ (S2.trans S4) R4 r4
    · rw [if_neg (fun z => hl (of_decide_eq_true z))] at q
      cases q
end

/-! ### tables -/
section
variable {κ : Type} [DecidableEq κ]
def gK : List (κ × Va) → κ → Option Va
  | [], _ => none
  | (j, v) :: t, k => if decide (j = k) then some v else gK t k
def pK (kvs : List (κ × Va)) (k : κ) (v : Va) : List (κ × Va) :=
  if (kvs.any fun kv => decide (kv.1 = k)) = true then kvs.map (fun kv => if kv.1 = k then (kv.1, v) else kv) else kvs ++ [(k, v)]
variable {g : Gd} {ρ : List Addr} {H : Hp}
theorem Rkv.get : ∀ {kvs : List (κ × Va)} {ws : List (κ × V)} {k : κ} {v : Va}, Rkv g ρ H kvs ws → gK kvs k = some v → ∃ x, valV ws k = some x ∧ Rv g ρ H v x
  | [], _, _, _, _, e => by cases e
  | (j, u) :: t, _, k, v, h, e => by
    obtain ⟨x, r, rfl, h1, h2⟩ := h
    unfold gK at e
    by_cases hj : j = k
    · rw [if_pos (decide_eq_true hj)] at e
      cases e
      exact ⟨x, valV_pos hj, h1⟩
    · rw [if_neg (fun z => hj (of_decide_eq_true z))] at e
      rw [valV_neg hj]
      exact Rkv.get h2 e
theorem Rkv.keys : ∀ {kvs : List (κ × Va)} {ws : List (κ × V)}, Rkv g ρ H kvs ws → kvs.map (·.1) = ws.map (·.1)
  | [], _, h => by cases h; rfl
  | (j, u) :: t, _, h => by
    obtain ⟨x, r, rfl, h1, h2⟩ := h
    simp [Rkv.keys h2]
end
theorem Rkv.length {κ : Type} {g : Gd} {ρ : List Addr} {H : Hp} : ∀ {kvs : List (κ × Va)} {ws : List (κ × V)}, Rkv g ρ H kvs ws → kvs.length = ws.length
  | [], _, h => by cases h; rfl
  | (j, u) :: t, _, h => by
    obtain ⟨x, r, rfl, h1, h2⟩ := h
    simp [Rkv.length h2]
section
variable {κ : Type} [DecidableEq κ] {g : Gd} {ρ : List Addr} {H : Hp}
theorem Rkv.any : ∀ {kvs : List (κ × Va)} {ws : List (κ × V)} (k : κ), Rkv g ρ H kvs ws → (kvs.any fun kv => decide (kv.1 = k)) = (ws.any fun kv => decide (kv.1 = k))
  | [], _, _, h => by cases h; rfl
  | (j, u) :: t, _, k, h => by
    obtain ⟨x, r, rfl, h1, h2⟩ := h
    simp only [List.any_cons, Rkv.any k h2]
theorem Rkv.mapped {v : Va} {x : V} (rv : Rv g ρ H v x) : ∀ {kvs : List (κ × Va)} {ws : List (κ × V)} (k : κ), Rkv g ρ H kvs ws → Rkv g ρ H (kvs.map fun kv => if kv.1 = k then (kv.1, v) else kv) (ws.map fun kv => if kv.1 = k then (kv.1, x) else kv)
  | [], _, _, h => by cases h; rfl
  | (j, u) :: t, _, k, h => by
    obtain ⟨y, r, rfl, h1, h2⟩ := h
    simp only [List.map_cons]
    by_cases hj : j = k
    · rw [if_pos hj, if_pos hj]
      exact ⟨x, _, rfl, rv, Rkv.mapped rv k h2⟩
    · rw [if_neg hj, if_neg hj]
      exact ⟨y, _, rfl, h1, Rkv.mapped rv k h2⟩
theorem Rkv.snoc {v : Va} {x : V} (rv : Rv g ρ H v x) : ∀ {kvs : List (κ × Va)} {ws : List (κ × V)} (k : κ), Rkv g ρ H kvs ws → Rkv g ρ H (kvs ++ [(k, v)]) (ws ++ [(k, x)])
  | [], _, k, h => by cases h; exact ⟨x, [], rfl, rv, rfl⟩
  | (j, u) :: t, _, k, h => by
    obtain ⟨y, r, rfl, h1, h2⟩ := h
    exact ⟨y, _, rfl, h1, Rkv.snoc rv k h2⟩
theorem Rkv.put {v : Va} {x : V} (rv : Rv g ρ H v x) {kvs : List (κ × Va)} {ws : List (κ × V)} (k : κ) (h : Rkv g ρ H kvs ws) : Rkv g ρ H (pK kvs k v) (putK ws k x) := by
  unfold pK putK
  rw [Rkv.any k h]
  split
  · exact Rkv.mapped rv k h
  · exact Rkv.snoc rv k h
end

/-! ### what is not ours is changed, or becomes ours -/
section
variable {g : Gd} {ρ ρ' : List Addr} {H H' : Hp} {hp : Hs}
theorem Tst.updG {D : Addr} {o : HO} (h : ∀ x y, H D ≠ some (.frz x y)) : Tst g H (L2.upd H D o) := by
  refine ⟨fun a vs q => ?_, fun q => ?_⟩
  · rcases q with ⟨u, q, d⟩ | q
    · exact .inl ⟨u, by rw [L2.upd_ne (show a ≠ D from fun z => h u (.tup vs) (by rw [← z]; exact q))]; exact q, d⟩
    · exact .inr q
  · rcases q with ⟨u, q⟩ | q
    · exact .inl ⟨u, by rw [L2.upd_ne (show g.sa ≠ D from fun z => h u (.lst (g.ns.map V.int)) (by rw [← z]; exact q))]; exact q⟩
    · exact .inr q
theorem Tst.self : Tst g H H := ⟨fun _ _ q => q, fun q => q⟩
theorem Ro.tst (T : Tst g H H') (hr : ρ <+: ρ') {a : Addr} {o : Ob} (e : H' a = H a) (q : Ro g ρ H a o) : Ro g ρ' H' a o := by
  cases o with
  | lst xs => obtain ⟨vs, e2, r⟩ := q; exact ⟨vs, e.trans e2, Rvs.tst T hr _ _ r⟩
  | dK xs => obtain ⟨vs, e2, r⟩ := q; exact ⟨vs, e.trans e2, Rkv.tst T hr _ _ r⟩
  | dT xs => obtain ⟨vs, e2, r⟩ := q; exact ⟨vs, e2.keep (fun _ z => e.trans z) T.1, Rkv.tst T hr _ _ r⟩
  | ins c xs => obtain ⟨dx, vs, e2, r⟩ := q; exact ⟨dx, vs, e.trans e2, Rkv.tst T hr _ _ r⟩
  | dF xs => obtain ⟨dx, vs, e2, r⟩ := q; exact ⟨dx, vs, e.trans e2, Rkv.tst T hr _ _ r⟩
theorem Rh.takeG (R : Rh g ρ H hp) {D : Addr} {o : Ob} (hD : D ∉ ρ) (q : Ro g ρ H D o) : Rh g (ρ ++ [D]) H (hp ++ [o]) := by
  have pr : ρ <+: ρ ++ [D] := List.prefix_append _ _
  refine ⟨by simp [R.len], ?_, fun i a x h1 h2 => ?_⟩
  · rw [List.nodup_append]
    refine ⟨R.nd, by simp, fun a ha b hb e => ?_⟩
    obtain rfl := List.mem_singleton.mp hb
    subst e; exact hD ha
  · by_cases hi : i < ρ.length
    · rw [List.getElem?_append_left hi] at h1
      rw [List.getElem?_append_left (by rw [← R.len]; exact hi)] at h2
      exact Ro.tst Tst.self pr rfl (R.obj i a x h1 h2)
    · have hi2 : i = ρ.length := by
        have := (List.getElem?_eq_some_iff.mp h1).1
        simp at this; omega
      subst hi2
      simp at h1
      subst h1
      rw [R.len] at h2
      simp at h2
      subst h2
      exact Ro.tst Tst.self pr rfl q
/-- an object of ours is written over, all tuples stay -/
theorem Rh.over (R : Rh g ρ H hp) {i : Nat} {a : Addr} {u : HO} {o : Ob} (hi : ρ[i]? = some a) (T : Tst g H (upd H a u)) (ho : Ro g ρ (upd H a u) a o) : Rh g ρ (upd H a u) (hp.set i o) := by
  refine ⟨by simp [R.len], R.nd, fun j b x h1 h2 => ?_⟩
  by_cases hj : i = j
  · subst hj
    rw [hi] at h1; cases h1
    have : i < hp.length := by rw [← R.len]; exact (List.getElem?_eq_some_iff.mp hi).1
    rw [List.getElem?_set_self this] at h2
    cases h2
    exact ho
  · rw [List.getElem?_set_ne hj] at h2
    have hne : b ≠ a := fun e => hj (nd_ix R.nd hi (by rw [e] at h1; exact h1))
    exact Ro.tst T (List.prefix_refl _) (upd_ne hne) (R.obj j b x h1 h2)
end

/-! ### d[k] -/
def keyOf (x : Va) : Option Key := match x with
  | .int i => some (.inl i)
  | .str x => some (.inr x)
  | _ => none
theorem keyOf_rv {g : Gd} {ρ : List Addr} {H : Hp} {x : Va} {v : V} {k : Key} (r : Rv g ρ H x v) (e : keyOf x = some k) : v = kV k := by
  unfold keyOf at e
  split at e
  · cases e; simp only [Rv] at r; subst r; rfl
  · cases e; simp only [Rv] at r; subst r; rfl
  · cases e
def kDg : K2 := fun x y h => match x with
  | .ref r => match h[r]? with
    | some (.dK kvs) => (keyOf y).bind fun k => (gK kvs k).map fun v => (v, h)
    | some (.dF kvs) => (keyOf y).bind fun k => (gK kvs k).map fun v => (v, h)
    | _ => none
  | _ => none
def rDg : R2 := fun x y H Q => ∃ a v, x = .ref a ∧ DGet H a y (some v) ∧ Q v H
def kIxU : K2 := fun x y h => match kIx x y h with
  | some r => some r
  | none => kDg x y h
section
variable {g : Gd} {X : Cx} {W : WX} {n : Nat} {pos : Pos}
theorem p_dg : P2 g rDg kDg := by
  intro ρ H hp x y vx vy v h' Q R rx ry e q
  unfold kDg at e
  split at e
  · rename_i r
    simp only [Rv] at rx
    obtain ⟨a, ha, rfl⟩ := rx
    split at e
    · rename_i kvs hx
      obtain ⟨k, hk, e⟩ := Option.bind_eq_some_iff.mp e
      obtain ⟨u, hu, e⟩ := Option.map_eq_some_iff.mp e
      cases e
      obtain ⟨ws, e2, rk⟩ := R.obj r a _ ha hx
      obtain ⟨z, hz, rz⟩ := rk.get hu
      refine ⟨a, z, rfl, ?_, q ρ H _ (.refl _ _) R rz⟩
      rw [keyOf_rv ry hk, ← hz]
      exact DGet.k e2
    · rename_i kvs hx
      obtain ⟨k, hk, e⟩ := Option.bind_eq_some_iff.mp e
      obtain ⟨u, hu, e⟩ := Option.map_eq_some_iff.mp e
      cases e
      obtain ⟨o, ws, e2, rk⟩ := R.obj r a _ ha hx
      obtain ⟨z, hz, rz⟩ := rk.get hu
      refine ⟨a, z, rfl, ?_, q ρ H _ (.refl _ _) R rz⟩
      rw [keyOf_rv ry hk, ← hz]
      exact .inl ⟨ws, k, .inr ⟨o, e2⟩, rfl, rfl⟩
    · cases e
  · cases e
theorem dOp_or {k1 k2 k : K2} (hk : ∀ x y h, k x y h = k1 x y h ∨ k x y h = k2 x y h) (fa fb : De) (s : Sg) (h : Hs) : dOp k fa fb s h = dOp k1 fa fb s h ∨ dOp k fa fb s h = dOp k2 fa fb s h := by
  unfold dOp
  cases fa s h with
  | no => exact .inl rfl
  | ex c h1 => exact .inl rfl
  | ok x h1 =>
    simp only [Rs.bind]
    cases fb s h1 with
    | no => exact .inl rfl
    | ex c h1 => exact .inl rfl
    | ok y h2 =>
      simp only
      rcases hk x y h2 with e | e
      · rw [e]; exact .inl rfl
      · rw [e]; exact .inr rfl
theorem kIxU_or (x y : Va) (h : Hs) : kIxU x y h = kIx x y h ∨ kIxU x y h = kDg x y h := by
  unfold kIxU
  cases kIx x y h with
  | none => exact .inr rfl
  | some r => exact .inl rfl
theorem e_ixU {a b : Expr} {fa fb : De} (ha : SE g X W n a fa) (hb : SE g X W n b fb) (hs : PlainIx b := by exact fun _ _ => rfl) : SE g X W n (.Subscript a b pos) (dOp kIxU fa fb) := by
  intro C
  refine (PE.or (e_ix (pos := pos) ha hb hs C) (pe_dget (pos := pos) (by have := C.units; omega) (ha C) (hb C) hs)).imp ?_
  rintro σ H Q ⟨ρ, s, hp, R, L, h⟩
  rcases dOp_or kIxU_or fa fb s hp with e | e
  · rw [e] at h
    exact .inl ⟨ρ, s, hp, R, L, h⟩
  · rw [e] at h
    exact .inr (op_imp p_dg ⟨ρ, s, hp, R, L, h⟩)

/-! ### d[k] = v, xs[i] = v -/
def kPutL (o i v : Va) (h : Hs) : Option Hs := match o, i with
  | .ref r, .int k => match h[r]? with
    | some (.lst xs) => (ixN xs.length k).map fun j => h.set r (.lst (xs.set j v))
    | _ => none
  | _, _ => none
def kPutD (o i v : Va) (h : Hs) : Option Hs := match o with
  | .ref r => match h[r]? with
    | some (.dK kvs) => if decide (kvs.length < 1000) then (keyOf i).map fun k => h.set r (.dK (pK kvs k v)) else none
    | _ => none
  | _ => none
def dPutK (k : Va → Va → Va → Hs → Option Hs) (fo fi fv : De) : Ds := fun s h => (fv s h).bindS s fun v h1 => (fo s h1).bindS s fun o h2 => (fi s h2).bindS s fun i h3 => match k o i v h3 with
  | some h4 => .nx s h4
  | none => .no
def kPut (o i v : Va) (h : Hs) : Option Hs := match kPutL o i v h with
  | some r => some r
  | none => kPutD o i v h
theorem dPut_or (fo fi fv : De) (s : Sg) (h : Hs) : dPutK kPut fo fi fv s h = dPutK kPutL fo fi fv s h ∨ dPutK kPut fo fi fv s h = dPutK kPutD fo fi fv s h := by
  unfold dPutK
  cases fv s h with
  | no => exact .inl rfl
  | ex c h1 => exact .inl rfl
  | ok v h1 =>
    simp only [Rs.bindS]
    cases fo s h1 with
    | no => exact .inl rfl
    | ex c h1 => exact .inl rfl
    | ok o h2 =>
      simp only
      cases fi s h2 with
      | no => exact .inl rfl
      | ex c h1 => exact .inl rfl
      | ok i h3 =>
        simp only
        unfold kPut
        cases kPutL o i v h3 with
        | none => exact .inr rfl
        | some r => exact .inl rfl
theorem _root_.L2.PS.or {X : Cx} {e : Stmt} {t t' : TS} (h : PS X e t) (h' : PS X e t') : PS X e (fun D σ H => t D σ H ∨ t' D σ H) := ⟨fun pins s σ H D I w => by
  rcases w with w | w
  · exact h.run pins s σ H D I w
  · exact h'.run pins s σ H D I w⟩
theorem s_put {o i e : Expr} {pos' : Pos} {fo fi fv : De} (ho : SE g X W n o fo) (hi : SE g X W n i fi) (hv : SE g X W n e fv)
    (hs : swapsWith e (some (.Subscript o i pos')) pos.line X.env = pure false := by rfl) (hs2 : swapsWithSole [.Subscript o i pos'] e pos.line X.env = pure false := by rfl) (hw : swappedStores [.Subscript o i pos'] e X.env = pure none := by rfl)
    (h1 : (assignEach [.Subscript o i pos'] X.env).map (·.2) = [assign (.Subscript o i pos') X.env] := by rfl)
    (ha : ∀ v, assign (.Subscript o i pos') X.env v = (do
      let ov ← holding [v] (eval o X.env)
      let iv ← holding [v, ov] (eval i X.env)
      standAt pos'
      holding [v, ov, iv] (setItem ov iv v)
      release [v, ov, iv] []) := by intro _; rfl) : SS g X W n (.Assign [.Subscript o i pos'] e pos) (dPutK kPut fo fi fv) := by
  intro C
  refine (PS.or (ps_asg (pos := pos) (hv C) (pg_sub (ho C) (hi C) set_list ha) hs2 hw h1) (ps_dput (pos := pos) (pos' := pos') (by have := C.units; omega) (ho C) (hi C) (hv C) hs)).imp ?_
  rintro D σ H ⟨ρ, s, hp, R, L, h⟩
  rcases dPut_or fo fi fv s hp with q | q
  · rw [q] at h
    refine .inl (bS h R L fun v h1 ρ1 H1 x S1 R1 r1 L1 p1 => bS p1 R1 L1 fun o h2 ρ2 H2 y S2 R2 r2 L2 p2 => bS p2 R2 L2 fun i h3 ρ3 H3 z S3 R3 r3 L3 p3 => ?_)
    split at p3
    · rename_i h4 hk
      unfold kPutL at hk
      split at hk
      · rename_i r k
        split at hk
        · rename_i xs hx
          obtain ⟨j, hj, rfl⟩ := Option.map_eq_some_iff.mp hk
          have r2' := Rv.step R2 S3 _ _ r2
          have r1' := Rv.step R2 S3 _ _ (Rv.step R1 S2 _ _ r1)
          simp only [Rv] at r2'
          obtain ⟨a, ha, rfl⟩ := r2'
          obtain ⟨vs, e2, rv⟩ := R3.obj r a _ ha hx
          obtain ⟨S4, R4⟩ := R3.put (u := .lst (vs.set j x)) (o := .lst (xs.set j v)) ha (fun _ _ z => by rw [e2] at z; cases z) fun S => ⟨_, upd_same, Rvs.step R3 S _ _ (rv.set j r1')⟩
          exact ⟨a, vs, k, j, rfl, rv_int r3, e2, by rw [← rv.length]; exact hj, p3 ρ3 _ σ S4 R4 (L3.step R3 S4)⟩
        · cases hk
      · cases hk
    · exact p3.elim
  · rw [q] at h
    refine .inr (bS h R L fun v h1 ρ1 H1 x S1 R1 r1 L1 p1 => bS p1 R1 L1 fun o h2 ρ2 H2 y S2 R2 r2 L2 p2 => bS p2 R2 L2 fun i h3 ρ3 H3 z S3 R3 r3 L3 p3 => ?_)
    split at p3
    · rename_i h4 hk
      unfold kPutD at hk
      split at hk
      · rename_i r
        split at hk
        · rename_i kvs hx
          by_cases hl : kvs.length < 1000
          · rw [if_pos (decide_eq_true hl)] at hk
            obtain ⟨k, hj, rfl⟩ := Option.map_eq_some_iff.mp hk
            have r2' := Rv.step R2 S3 _ _ r2
            have r1' := Rv.step R2 S3 _ _ (Rv.step R1 S2 _ _ r1)
            simp only [Rv] at r2'
            obtain ⟨a, ha, rfl⟩ := r2'
            obtain ⟨ws, e2, rk⟩ := R3.obj r a _ ha hx
            obtain ⟨S4, R4⟩ := R3.put (u := .dK (putK ws k x)) (o := .dK (pK kvs k v)) ha (fun _ _ z => by rw [e2] at z; cases z) fun S => ⟨_, upd_same, Rkv.step R3 S _ _ (rk.put r1' k)⟩
            refine ⟨a, _, rfl, ?_, p3 ρ3 _ σ S4 R4 (L3.step R3 S4)⟩
            rw [keyOf_rv r3 hj]
            exact DPut.k e2 (by rw [← rk.length, sizeLine_eq]; omega)
          · rw [if_neg (fun z => hl (of_decide_eq_true z))] at hk; cases hk
        · cases hk
      · cases hk
    · exact p3.elim
/-! ### {} -/
def dNewD : De := fun _ h => .ok (.ref h.length) (h ++ [.dK []])
theorem e_dnew : SE g X W n (.Dict [] [] pos) dNewD := by
  intro C
  refine pe_dnewK.imp ?_
  rintro σ H Q ⟨ρ, s, hp, R, L, h⟩ p hn
  obtain ⟨S2, R2⟩ := R.new (u := .dK []) (o := .dK []) hn fun S => ⟨[], upd_same, rfl⟩
  exact h _ _ _ S2 R2 (by simp only [Rv]; exact ⟨p, by rw [← R.len]; simp, rfl⟩)
end
end Wr

set_option Elab.async false
set_option linter.all false
set_option maxRecDepth 100000
set_option maxHeartbeats 4000000
set_option autoImplicit false
namespace Wr
open PySem PySem.Spec PyProof.Rows L2

/-! ### {k: v, ..} -/
def pairsD : List (De × De) → Sg → Hs → Rs (List (Va × Va))
  | [], _, h => .ok [] h
  | (a, b) :: t, s, h => (a s h).bind fun x h1 => (b s h1).bind fun y h2 => (pairsD t s h2).bind fun ps h3 => .ok ((x, y) :: ps) h3
def keysOf : List (Va × Va) → Option (List (Key × Va))
  | [] => some []
  | (x, y) :: t => match keyOf x with
    | some k => match keysOf t with
      | some r => some ((k, y) :: r)
      | none => none
    | none => none
def mergeD (kvs : List (Key × Va)) : List (Key × Va) → List (Key × Va)
  | [] => kvs
  | (k, v) :: t => mergeD (pK kvs k v) t
def dDisp (fs : List (De × De)) : De := fun s h => (pairsD fs s h).bind fun ps h1 => match keysOf ps with
  | some kvs => if decide (kvs.length ≤ 15) then .ok (.ref h1.length) (h1 ++ [.dK (mergeD [] kvs)]) else .no
  | none => .no
section
variable {g : Gd} {ρ : List Addr} {H : Hp}
def Rp2 (g : Gd) (ρ : List Addr) (H : Hp) : List (Va × Va) → List (V × V) → Prop
  | [], vs => vs = []
  | (a, b) :: t, vs => ∃ x y r, vs = (x, y) :: r ∧ Rv g ρ H a x ∧ Rv g ρ H b y ∧ Rp2 g ρ H t r
theorem keysOf_rv : ∀ {ps : List (Va × Va)} {vs : List (V × V)} {kvs : List (Key × Va)}, Rp2 g ρ H ps vs → keysOf ps = some kvs → ∃ ws, vs = ws.map (fun kv => (kV kv.1, kv.2)) ∧ Rkv g ρ H kvs ws
  | [], _, _, h, e => by cases h; cases e; exact ⟨[], rfl, rfl⟩
  | (a, b) :: t, _, _, h, e => by
    obtain ⟨x, y, r, rfl, h1, h2, h3⟩ := h
    unfold keysOf at e
    split at e
    · rename_i k hk
      split at e
      · rename_i kt ht
        cases e
        obtain ⟨ws, rfl, q⟩ := keysOf_rv h3 ht
        exact ⟨(k, y) :: ws, by rw [List.map_cons, keyOf_rv h1 hk], y, ws, rfl, h2, q⟩
      · cases e
    · cases e
theorem merge_rv : ∀ {more kvs : List (Key × Va)} {ws vs : List (Key × V)}, Rkv g ρ H kvs vs → Rkv g ρ H more ws → Rkv g ρ H (mergeD kvs more) (mergeK vs ws)
  | [], _, _, _, h, h' => by cases h'; exact h
  | (k, v) :: t, kvs, _, vs, h, h' => by
    obtain ⟨x, r, rfl, h1, h2⟩ := h'
    exact merge_rv (kvs := pK kvs k v) (vs := putK vs k x) (Rkv.put h1 k h) h2
end
section
variable {g : Gd} {X : Cx} {W : WX} {n : Nat} {pos : Pos}
def SPs (g : Gd) (X : Cx) (W : WX) (n : Nat) (pos : Pos) (ks : List (Option Expr)) (vs : List Expr) (fs : List (De × De)) : Prop := Cz g X W n → PPs X pos ks vs (fs.map fun p => (tE g W p.1, tE g W p.2))
theorem sp_nil : SPs g X W n pos [] [] [] := fun _ => pps_nil
theorem sp_cons {k v : Expr} {ks : List (Option Expr)} {vs : List Expr} {a b : De} {fs : List (De × De)} (hk : SE g X W n k a) (hv : SE g X W n v b) (hr : SPs g X W n pos ks vs fs) : SPs g X W n pos (some k :: ks) (v :: vs) ((a, b) :: fs) :=
  fun C => pps_cons (hk C) (hv C) (hr C)
theorem pairs_ok {σ : L2.St} {s : Sg} {p : Addr} : ∀ (fs : List (De × De)) (ρ : List Addr) (H : Hp) (hp : Hs) (Q : List (V × V) → Hp → Prop), Rh g ρ H hp → Rsl g ρ H s σ →
    (match pairsD fs s hp with
      | .ok ps h => ∀ ρ' H' vs, Sp1 ρ H ρ' H' → Rh g ρ' H' h → Rp2 g ρ' H' ps vs → Q vs H'
      | .ex c h => ∀ ρ' H', Sp1 ρ H ρ' H' → Rh g ρ' H' h → W (.ref (g.G c)) none σ H'
      | .no => False) → tPairs (fs.map fun p => (tE g W p.1, tE g W p.2)) σ H Q
  | [], ρ, H, hp, Q, R, L, h => h ρ H [] (.refl _ _) R rfl
  | (a, b) :: t, ρ, H, hp, Q, R, L, h => by
    unfold pairsD at h
    refine ⟨ρ, s, hp, R, L, ?_⟩
    show PoE g ρ H (a s hp) _ _
    cases q : a s hp with
    | no => rw [q] at h; exact h
    | ex c h1 => rw [q] at h; exact h
    | ok x h1 =>
      rw [q] at h
      simp only [Rs.bind] at h
      intro ρ1 H1 vx S1 R1 r1
      refine ⟨ρ1, s, h1, R1, L.step R S1, ?_⟩
      show PoE g ρ1 H1 (b s h1) _ _
      cases q2 : b s h1 with
      | no => rw [q2] at h; exact h
      | ex c h2 => rw [q2] at h; exact fun ρ2 H2 S2 R2 => h ρ2 H2 (S1.trans S2) R2
      | ok y h2 =>
        rw [q2] at h
        simp only at h
        intro ρ2 H2 vy S2 R2 r2
        refine pairs_ok (p := p) t ρ2 H2 h2 _ R2 ((L.step R S1).step R1 S2) ?_
        cases q3 : pairsD t s h2 with
        | no => rw [q3] at h; exact h
        | ex c h3 => rw [q3] at h; exact fun ρ3 H3 S3 R3 => h ρ3 H3 ((S1.trans S2).trans S3) R3
        | ok ps h3 =>
          rw [q3] at h
          simp only at h
          intro ρ3 H3 vs S3 R3 r3
          exact h ρ3 H3 ((vx, vy) :: vs) ((S1.trans S2).trans S3) R3 ⟨vx, vy, vs, rfl, Rv.step R1 (S2.trans S3) _ _ r1, Rv.step R2 S3 _ _ r2, r3⟩
theorem e_disp {ks : List (Option Expr)} {vs : List Expr} {fs : List (De × De)} (h : SPs g X W n pos ks vs fs) (hall : ks.all (·.isSome) = true := by rfl) (hl : ks.length = vs.length := by rfl) (h0 : ks ≠ [] := by exact List.cons_ne_nil _ _)
    (h15 : ks.length ≤ 15 := by decide) : SE g X W n (.Dict ks vs pos) (dDisp fs) := by
  intro C
  refine (pe_disp (h C) hall hl h0 h15).imp ?_
  rintro σ H Q ⟨ρ, s, hp, R, L, h⟩ p hn
  obtain ⟨S1, R1⟩ := R.laid (u := .dK []) hn
  have hpn : p ∉ ρ := fun z => by have := R.mut z; rw [hn] at this; exact this
  refine pairs_ok (p := p) fs ρ _ hp _ R1 (L.step R S1) ?_
  unfold dDisp at h
  cases q : pairsD fs s hp with
  | no => rw [q] at h; exact h
  | ex c h2 => rw [q] at h; exact fun ρ2 H2 S2 R2 => h ρ2 H2 (S1.trans S2) R2
  | ok ps h2 =>
    rw [q] at h
    simp only [Rs.bind] at h
    intro ρ2 H2 vs S2 R2 r2
    have e2 : H2 p = some (.dK []) := S2.keep p _ upd_same hpn
    have np2 : p ∉ ρ2 := fun z => by
      rcases S2.new p z with w | w
      · exact hpn w
      · rw [upd_same] at w; cases w
    cases hk : keysOf ps with
    | none => rw [hk] at h; exact h.elim
    | some kvs =>
      rw [hk] at h
      simp only at h
      by_cases hl : kvs.length ≤ 15
      · rw [if_pos (decide_eq_true hl)] at h
        obtain ⟨ws, rfl, rk⟩ := keysOf_rv r2 hk
        refine ⟨e2, ws, rfl, by rw [← rk.length]; exact hl, ?_⟩
        have T : Tst g H2 (upd H2 p (.dK (mergeK [] ws))) := Tst.updG fun _ _ z => by rw [e2] at z; cases z
        have R3 := R2.other T np2
        have R4 := R3.takeG (o := .dK (mergeD [] kvs)) np2 ⟨_, upd_same, Rkv.tst T (List.prefix_refl _) _ _ (merge_rv (kvs := []) (vs := []) rfl rk)⟩
        have S12 := S1.trans S2
        have hne : ∀ b o, H b = some o → b ≠ p := fun b o hb z => by rw [z, hn] at hb; cases hb
        refine h (ρ2 ++ [p]) _ (.ref p) ⟨S12.pre.trans (List.prefix_append _ _), fun b hb => ?_, fun b o hb hnb => by rw [upd_ne (hne b o hb)]; exact S12.keep b o hb hnb, fun b o u hb => by rw [upd_ne (hne b _ hb)]; exact S12.frz b o u hb⟩ R4 ?_
        · rcases List.mem_append.mp hb with z | z
          · exact S12.new b z
          · rw [List.mem_singleton.mp z]; exact .inr hn
        · simp only [Rv]
          exact ⟨p, by rw [← R2.len]; simp, rfl⟩
      · rw [if_neg (fun z => hl (of_decide_eq_true z))] at h; exact h.elim

/-! ### dict([(k, v), ..]) -/
def pairsOf : List Va → Option (List (Key × Va))
  | [] => some []
  | x :: t => match x with
    | .tup [a, b] => match keyOf a with
      | some k => match pairsOf t with
        | some r => some ((k, b) :: r)
        | none => none
      | none => none
    | _ => none
def kDict : K1 := fun xs h => (lstArg xs h).bind fun ys => (pairsOf ys).map fun kvs => (.ref h.length, h ++ [.dK (mergeD [] kvs)])
theorem pairsOf_rv {ρ : List Addr} {H : Hp} : ∀ {xs : List Va} {vs : List V} {kvs : List (Key × Va)}, Rvs g ρ H xs vs → pairsOf xs = some kvs → ∃ (ps : List Addr) (ws : List (Key × V)), vs = ps.map V.ref ∧ Paired (fun p kv => SqT g.K H p [kV kv.1, kv.2]) ps ws ∧ Rkv g ρ H kvs ws
  | [], _, _, h, e => by simp only [Rvs] at h; subst h; cases e; exact ⟨[], [], rfl, .nil, rfl⟩
  | x :: t, _, _, h, e => by
    simp only [Rvs] at h
    obtain ⟨v, r, rfl, h1, h2⟩ := h
    unfold pairsOf at e
    split at e
    · rename_i a b
      split at e
      · rename_i k hk
        split at e
        · rename_i kt ht
          cases e
          obtain ⟨ps, ws, rfl, hp, rk⟩ := pairsOf_rv h2 ht
          simp only [Rv] at h1
          obtain ⟨q, us, rfl, ht2, ru⟩ := h1
          obtain ⟨y, z, rfl, ry, rz⟩ := ru.inv2
          refine ⟨q :: ps, (k, z) :: ws, rfl, .cons ?_ hp, z, ws, rfl, rz, rk⟩
          rw [← keyOf_rv ry hk]
          exact ht2.sqT
        · cases e
      · cases e
    · cases e
abbrev rDictP (K : PySem.W.Frag) : List V → Hp → VK → Prop := fun xs H Q => ∃ (a : Addr) (ps : List Addr) (kvs : List (Key × V)), xs = [.ref a] ∧ SqL K H a (ps.map V.ref) ∧ Paired (fun p kv => SqT K H p [kV kv.1, kv.2]) ps kvs ∧
    ∀ p, H p = none → Q (.ref p) (upd H p (.dK (mergeK [] kvs)))
theorem c_dict : CallC g (.type "dict") (rDictP g.K) := fun X hK hc _ => hK ▸ call_dictP hc
theorem p_dict : PC1 g (rDictP g.K) kDict := by
  intro ρ H hp xs vs v h' Q R r e q
  obtain ⟨ys, h1, e⟩ := Option.bind_eq_some_iff.mp e
  obtain ⟨kvs, h2, e⟩ := Option.map_eq_some_iff.mp e
  cases e
  obtain ⟨a, us, rfl, e2, rv⟩ := lstArg_inv R r h1
  obtain ⟨ps, ws, rfl, hp2, rk⟩ := pairsOf_rv rv h2
  refine ⟨a, ps, ws, rfl, .inl (.inl e2), hp2, fun p hn => ?_⟩
  obtain ⟨S4, R4⟩ := R.new (u := .dK (mergeK [] ws)) (o := .dK (mergeD [] kvs)) hn fun S => ⟨_, upd_same, Rkv.step R S _ _ (merge_rv (kvs := []) (vs := []) rfl rk)⟩
  exact q _ _ _ S4 R4 (by simp only [Rv]; exact ⟨p, by rw [← R.len]; simp, rfl⟩)

/-! ### walking the keys of a locked dict -/
def keysIt (v : Va) (h : Hs) : Rs It' := match v with
  | .ref r => match h[r]? with
    | some (.dF kvs) => .ok (.tup (kvs.map fun kv => kVa kv.1)) h
    | _ => .no
  | _ => .no
def dKeys (f : De) : Di := fun s h => (f s h).bind keysIt
theorem kVa_rv {ρ : List Addr} {H : Hp} (k : Key) : Rv g ρ H (kVa k) (kV k) := by
  cases k <;> simp only [kVa, kV, Rv]
theorem i_keys {b : Bool} {tg e : Expr} {f : De} (he : SE g X W n e f) : SI g X W n b tg e (dKeys f) := by
  intro C
  refine (pi_keys (he C)).imp ?_
  rintro σ H Rr ⟨ρ, s, hp, R, L, h⟩
  refine iBE h R L fun v h1 ρ1 H1 x qv S1 R1 r1 L1 p1 => ?_
  clear qv
  unfold keysIt at p1
  split at p1
  · rename_i r
    split at p1
    · rename_i kvs hx
      simp only [Rv] at r1
      obtain ⟨a, ha, rfl⟩ := r1
      obtain ⟨o, ws, e2, rk⟩ := R1.obj r a _ ha hx
      refine ⟨a, o, rfl, .inl ⟨ws, e2, p1 ρ1 H1 _ (.refl _ _) R1 ?_⟩⟩
      intro i ρ2 H2 hp2 ov S2 R2 hq
      have e3 := S2.frz _ _ _ e2
      have hk := rk.keys
      have hl := rk.length
      simp only [nxt, Option.some.injEq] at hq
      subst hq
      rw [List.getElem?_map]
      by_cases hi : i < kvs.length
      · rw [List.getElem?_eq_getElem hi]
        simp only [Option.map_some]
        refine ⟨⟨e3, by omega⟩, ?_⟩
        rintro x H3 ⟨rfl, k, v, hkv, rfl⟩
        refine ⟨.refl _ _, R2, Ry.of ?_⟩
        have : (kvs.map (·.1))[i]? = (ws.map (·.1))[i]? := by rw [hk]
        rw [List.getElem?_map, List.getElem?_map, hkv, List.getElem?_eq_getElem hi] at this
        simp only [Option.map_some, Option.some.injEq] at this
        rw [this]
        exact kVa_rv k
      · rw [List.getElem?_eq_none (by omega)]
        exact ⟨e3, by omega⟩
    · exact p1.elim
  · exact p1.elim
/-- the dict that the name i holds is locked meanwhile -/
def dLock (i : Nat) (f : De) : De := fun s h => match s[i]? with
  | some (some (.ref r)) => match h[r]? with
    | some (.dK kvs) => match f s (h.set r (.dF kvs)) with
      | .ok v h3 => match h3[r]? with
        | some (.dF kvs') => .ok v (h3.set r (.dK kvs'))
        | _ => .no
      | _ => .no
    | _ => .no
  | _ => .no
theorem e_lock (i : Nat) {e : Expr} {f : De} (he : SE g X W n e f) : SE g X W n e (dLock i f) := by
  intro C
  refine (pe_lock (he C)).imp ?_
  rintro σ H Q ⟨ρ, s, hp, R, L, h⟩
  unfold dLock at h
  split at h
  · rename_i r hs
    split at h
    · rename_i kvs hx
      obtain ⟨v, hv, rv⟩ := L.at_ i _ hs
      simp only [Rv] at rv
      obtain ⟨d, hd, rfl⟩ := rv
      obtain ⟨ws, e2, rk⟩ := R.obj r d _ hd hx
      refine ⟨d, .dK ws, e2, trivial, fun od => ?_⟩
      obtain ⟨S1, R1⟩ := R.put (u := .frz od (.dK ws)) (o := .dF kvs) hd (fun _ _ z => by rw [e2] at z; cases z) fun S => ⟨od, ws, upd_same, Rkv.step R S _ _ rk⟩
      refine ⟨ρ, s, hp.set r (.dF kvs), R1, L.step R S1, ?_⟩
      cases q : f s (hp.set r (.dF kvs)) with
      | no => rw [q] at h; exact h.elim
      | ex c h1 => rw [q] at h; exact h.elim
      | ok v h3 =>
        rw [q] at h
        simp only at h
        intro ρ3 H3 x S3 R3 r3
        have e3 := S3.frz d od (.dK ws) upd_same
        refine ⟨e3, ?_⟩
        split at h
        · rename_i kvs' hx3
          have hd3 := pre_get S3.pre hd
          obtain ⟨o4, ws4, e4, rk4⟩ := R3.obj r d _ hd3 hx3
          rw [e3] at e4
          cases e4
          have T : Tst g H3 (upd H3 d (.dK ws)) := by
            refine ⟨fun a vs q => ?_, fun q => ?_⟩
            · rcases q with ⟨u, q, dd⟩ | q
              · exact .inl ⟨u, by rw [upd_ne (ne_of q e3 (by intro z; cases z))]; exact q, dd⟩
              · exact .inr q
            · rcases q with ⟨u, q⟩ | q
              · exact .inl ⟨u, by rw [upd_ne (ne_of q e3 (by intro z; cases z))]; exact q⟩
              · exact .inr q
          have R4 := R3.over (o := .dK kvs') hd3 T ⟨ws, upd_same, Rkv.tst T (List.prefix_refl _) _ _ rk4⟩
          have dm : d ∈ ρ := List.mem_of_getElem? hd
          have S13 := S1.trans S3
          refine h ρ3 _ x ⟨S13.pre, S13.new, fun b o hb hn => ?_, fun b o u hb => ?_⟩ R4 (Rv.tst T (List.prefix_refl _) _ _ r3)
          · rw [upd_ne (show b ≠ d from fun z => hn (z ▸ dm))]; exact S13.keep b o hb hn
          · rw [upd_ne (show b ≠ d from fun z => by rw [z, e2] at hb; cases hb)]; exact S13.frz b o u hb
        · exact h.elim
    · exact h.elim
  · exact h.elim
end
end Wr

set_option Elab.async false
set_option linter.all false
set_option maxRecDepth 100000
set_option maxHeartbeats 4000000
set_option autoImplicit false
namespace Wr
open PySem PySem.Spec PyProof.Rows L2
section
variable {g : Gd} {X : Cx} {W : WX} {n : Nat} {pos : Pos}
/-! ### the script -/
theorem ScrAt.sq {H : Hp} (h : ScrAt g H) : SqL g.K H g.sa (g.ns.map V.int) := by
  rcases h with ⟨o, h⟩ | h
  · exact .inl (.inr ⟨o, h⟩)
  · exact .inr h
def kLenS (ns : List Int) : K1 := fun xs h => match xs with
  | [.scr] => some (.int ns.length, h)
  | _ => none
theorem p_lenS : PC1 g (rLenA g.K) (kLenS g.ns) := by
  intro ρ H hp xs vs v h' Q R r e q
  unfold kLenS at e
  split at e
  · cases e
    obtain ⟨w, rfl, rw'⟩ := r.inv1
    simp only [Rv] at rw'
    obtain ⟨rfl, hs⟩ := rw'
    exact .inl ⟨g.sa, _, rfl, .inl hs.sq, by rw [List.length_map]; exact q ρ H _ (.refl _ _) R mk_int⟩
  · cases e
def kIxS (ns : List Int) : K2 := fun x y h => match x, y with
  | .scr, .int i => (L2.atI ns i).map fun v => (.int v, h)
  | _, _ => none
theorem atI_map {ns : List Int} {i v : Int} (e : L2.atI ns i = some v) : L2.atI (ns.map V.int) i = some (.int v) := by
  unfold L2.atI at e ⊢
  rw [List.length_map]
  cases hj : ixN ns.length i with
  | none => rw [hj] at e; cases e
  | some j =>
    rw [hj] at e
    simp only [Option.bind_some] at e ⊢
    rw [List.getElem?_map, e]; rfl
theorem p_ixS : P2 g (rIx g.K) (kIxS g.ns) := by
  intro ρ H hp x y vx vy v h' Q R rx ry e q
  unfold kIxS at e
  split at e
  · rename_i i
    obtain ⟨w, hw, e⟩ := Option.map_eq_some_iff.mp e
    cases e
    simp only [Rv] at rx
    obtain ⟨rfl, hs⟩ := rx
    exact .inl ⟨g.sa, _, i, _, rfl, rv_int ry, hs.sq, atI_map hw, q ρ H _ (.refl _ _) R mk_int⟩
  · cases e
theorem e_ixS {a b : Expr} {fa fb : De} (ha : SE g X W n a fa) (hb : SE g X W n b fb) (hs : PlainIx b := by exact fun _ _ => rfl) : SE g X W n (.Subscript a b pos) (dOp (kIxS g.ns) fa fb) :=
  fun C => (pe_ix ix_seq (ha C) (hb C) hs).imp fun _ _ _ h => C.K ▸ op_imp p_ixS h
/-! script == [] -/
theorem dp_ints {K : PySem.W.Frag} {H : Hp} : ∀ ns : List Int, DpAll K H (ns.map V.int) (ns.map PyData.int)
  | [] => .nil
  | x :: t => .cons (.int x) (dp_ints t)
theorem lay_ints : ∀ ns : List Int, PyData.canLayAll0 (ns.map PyData.int) = true ∧ PyData.depthAll (ns.map PyData.int) = 0
  | [] => by simp [PyData.canLayAll0, PyData.depthAll]
  | x :: t => by
    obtain ⟨h1, h2⟩ := lay_ints t
    simp only [List.map_cons, PyData.canLayAll0, PyData.depthAll, PyData.canLay0, PyData.depth, h1, h2]
    simp
theorem shaped_ints (ns : List Int) : SeqAt.shaped (.list (ns.map PyData.int)) = true := by
  obtain ⟨h1, h2⟩ := lay_ints ns
  unfold SeqAt.shaped
  simp only [PyData.canLay0, PyData.depth, h1, h2]
  simp
def eqNil (ns : List Int) : Bool := match ns with
  | [] => true
  | _ :: _ => false
theorem eqv_nil (ns : List Int) : PyData.eqv (.list (ns.map PyData.int)) (.list []) = eqNil ns := by
  cases ns with
  | nil => simp [PyData.eqv, PyData.eqvAll, eqNil]
  | cons x t => simp [PyData.eqv, PyData.eqvAll, eqNil]
def kEqS (ns : List Int) : K2 := fun x y h => match x, y with
  | .scr, .ref r => match h[r]? with
    | some (.lst []) => some (.bl (eqNil ns), h)
    | _ => none
  | _, _ => none
def kNeS (ns : List Int) : K2 := fun x y h => match x, y with
  | .scr, .ref r => match h[r]? with
    | some (.lst []) => some (.bl (!eqNil ns), h)
    | _ => none
  | _, _ => none
theorem p_eqS : P2 g (rEqD g.K) (kEqS g.ns) := by
  intro ρ H hp x y vx vy v h' Q R rx ry e q
  unfold kEqS at e
  split at e
  · rename_i r
    split at e
    · rename_i hx
      cases e
      simp only [Rv] at rx ry
      obtain ⟨rfl, hs⟩ := rx
      obtain ⟨a, ha, rfl⟩ := ry
      obtain ⟨vs, e2, rv⟩ := R.obj r a _ ha hx
      simp only [Rvs] at rv
      subst rv
      refine ⟨.list (g.ns.map PyData.int), .list [], .lst hs.sq (dp_ints _), .lst (.inl (.inl e2)) .nil, shaped_ints _, by rfl, ?_⟩
      rw [eqv_nil]
      exact q ρ H _ (.refl _ _) R mk_bl
    · cases e
  · cases e
theorem p_neS : P2 g (rNeD g.K) (kNeS g.ns) := by
  intro ρ H hp x y vx vy v h' Q R rx ry e q
  unfold kNeS at e
  split at e
  · rename_i r
    split at e
    · rename_i hx
      cases e
      simp only [Rv] at rx ry
      obtain ⟨rfl, hs⟩ := rx
      obtain ⟨a, ha, rfl⟩ := ry
      obtain ⟨vs, e2, rv⟩ := R.obj r a _ ha hx
      simp only [Rvs] at rv
      subst rv
      refine ⟨.list (g.ns.map PyData.int), .list [], .lst hs.sq (dp_ints _), .lst (.inl (.inl e2)) .nil, shaped_ints _, by rfl, ?_⟩
      rw [eqv_nil]
      exact q ρ H _ (.refl _ _) R mk_bl
    · cases e
  · cases e
/-! ### //, ** -/
def kFdivW : K2 := fun x y h => match x, y with
  | .int i, .int j => if decide (0 < j) && decide (j < 18446744073709551616) then some (.int (i / j), h) else none
  | _, _ => none
theorem o_fdivW : ∀ X : Cx, X.K = g.K → OpR X (binaryOp .FloorDiv) (rI CDivW fun i j => .int (i / j)) := fun X hK => op_fdivW
theorem p_fdivW : P2 g (rI CDivW fun i j => .int (i / j)) kFdivW := by
  intro ρ H hp x y vx vy v h' Q R rx ry e q
  unfold kFdivW at e
  split at e
  · rename_i i j
    by_cases hz : (decide (0 < j) && decide (j < 18446744073709551616)) = true
    · rw [if_pos hz] at e
      cases e
      rw [Bool.and_eq_true] at hz
      have h1 := of_decide_eq_true hz.1
      have h2 := of_decide_eq_true hz.2
      refine ⟨i, j, rv_int rx, rv_int ry, ⟨h1, ?_⟩, q ρ H _ (.refl _ _) R mk_int⟩
      have h3 : j.natAbs < 2 ^ 64 := by omega
      have := (Nat.log2_lt (by omega : j.natAbs ≠ 0)).mpr h3
      omega
    · rw [if_neg hz] at e; cases e
  · cases e
def kPow : K2 := fun x y h => match x, y with
  | .int i, .int j => if decide (0 ≤ j) && (decide (j ≤ 1000) && decide (i.natAbs < 18446744073709551616)) then some (.int (i ^ j.toNat), h) else none
  | _, _ => none
theorem o_pow : ∀ X : Cx, X.K = g.K → OpR X (binaryOp .Pow) (rI CPow fun i j => .int (i ^ j.toNat)) := fun X hK => op_pow
theorem p_pow : P2 g (rI CPow fun i j => .int (i ^ j.toNat)) kPow := by
  intro ρ H hp x y vx vy v h' Q R rx ry e q
  unfold kPow at e
  split at e
  · rename_i i j
    by_cases hz : (decide (0 ≤ j) && (decide (j ≤ 1000) && decide (i.natAbs < 18446744073709551616))) = true
    · rw [if_pos hz] at e
      cases e
      rw [Bool.and_eq_true, Bool.and_eq_true] at hz
      have h1 := of_decide_eq_true hz.1
      have h2 := of_decide_eq_true hz.2.1
      have h3 := of_decide_eq_true hz.2.2
      exact ⟨i, j, rv_int rx, rv_int ry, ⟨h1, by omega, by omega⟩, q ρ H _ (.refl _ _) R mk_int⟩
    · rw [if_neg hz] at e; cases e
  · cases e
/-! ### -x -/
def kNeg (x : Va) : Rs Va → Rs Va := fun r => r
def dNeg (f : De) : De := fun s h => (f s h).bind fun v h1 => match v with
  | .int i => .ok (.int (-i)) h1
  | _ => .no
theorem e_neg {a : Expr} {f : De} (ha : SE g X W n a f) : SE g X W n (.UnaryOp .USub a pos) (dNeg f) := by
  intro C
  refine (pe_un un_neg (ha C)).imp ?_
  rintro σ H Q ⟨ρ, s, hp, R, L, h⟩
  refine bE h R L fun v h1 ρ1 H1 x S1 R1 r1 L1 p1 => ?_
  cases v with
  | int i => exact ⟨i, rv_int r1, p1 ρ1 H1 _ (.refl _ _) R1 mk_int⟩
  | _ => exact p1.elim
end
end Wr

set_option Elab.async false
set_option linter.all false
set_option maxRecDepth 100000
set_option maxHeartbeats 4000000
set_option autoImplicit false
namespace Wr
open PySem PySem.Spec PyProof.Rows L2

/-! ### at a loop's head: what is dead is forgotten -/
def maskS (live : List Nat) : Nat → Sg → Sg
  | _, [] => []
  | i, x :: t => (if live.contains i then x else none) :: maskS live (i + 1) t
def refsS : Sg → List Nat
  | [] => []
  | some v :: t => refsV v ++ refsS t
  | none :: t => refsS t
def renSl (f : Nat → Option Nat) : Sg → Option Sg
  | [] => some []
  | none :: t => match renSl f t with
    | some r => some (none :: r)
    | none => none
  | some v :: t => match ren f v with
    | some w => match renSl f t with
      | some r => some (some w :: r)
      | none => none
    | none => none
def cleanS (n0 : Nat) (live : List Nat) (s : Sg) (h : Hs) : Option (Sg × Hs) :=
  let s1 := maskS live 0 s
  let m := List.range n0 ++ (reach 300 h (refsS s1 ++ (h.take n0).flatMap refsO) []).filter (fun i => decide (n0 ≤ i))
  if nodupB m then match renSl (idx m) s1 with
    | some s2 => match selO m h m with
      | some h2 => some (s2, h2)
      | none => none
    | none => none
  else none
theorem mask_len (live : List Nat) : ∀ (s : Sg) (i : Nat), (maskS live i s).length = s.length
  | [], _ => rfl
  | _ :: t, i => by simp [maskS, mask_len live t (i + 1)]
theorem mask_get (live : List Nat) : ∀ (s : Sg) (i j : Nat) (x : Va), (maskS live i s)[j]? = some (some x) → s[j]? = some (some x)
  | [], _, _, _, h => by simp [maskS] at h
  | y :: t, i, 0, x, h => by
    simp only [maskS, List.getElem?_cons_zero, Option.some.injEq] at h ⊢
    split at h
    · exact h
    · cases h
  | y :: t, i, j + 1, x, h => by
    simp only [maskS, List.getElem?_cons_succ] at h ⊢
    exact mask_get live t (i + 1) j x h
theorem renSl_get {f : Nat → Option Nat} : ∀ {s s2 : Sg}, renSl f s = some s2 → s2.length = s.length ∧ ∀ (j : Nat) (w : Va), s2[j]? = some (some w) → ∃ v, s[j]? = some (some v) ∧ ren f v = some w
  | [], _, e => by cases e; exact ⟨rfl, fun j w h => by simp at h⟩
  | none :: t, _, e => by
    unfold renSl at e
    split at e
    · rename_i r hr
      cases e
      obtain ⟨h1, h2⟩ := renSl_get hr
      refine ⟨by simp [h1], fun j w h => ?_⟩
      cases j with
      | zero => simp at h
      | succ j => simpa using h2 j w (by simpa using h)
    · cases e
  | some v :: t, _, e => by
    unfold renSl at e
    split at e
    · rename_i v' hv
      split at e
      · rename_i r hr
        cases e
        obtain ⟨h1, h2⟩ := renSl_get hr
        refine ⟨by simp [h1], fun j w h => ?_⟩
        cases j with
        | zero => simp at h; subst h; exact ⟨v, by simp, hv⟩
        | succ j => simpa using h2 j w (by simpa using h)
      · cases e
    · cases e
theorem clean_ok {g : Gd} {ρ0 ρ1 : List Addr} {H0 H1 : Hp} {live : List Nat} {s s2 : Sg} {h h2 : Hs} {σ : L2.St} (S1 : Sp1 ρ0 H0 ρ1 H1) (R1 : Rh g ρ1 H1 h) (L1 : Rsl g ρ1 H1 s σ) (e : cleanS ρ0.length live s h = some (s2, h2)) :
    ∃ ρ2, Sp1 ρ0 H0 ρ2 H1 ∧ Rh g ρ2 H1 h2 ∧ Rsl g ρ2 H1 s2 σ := by
  unfold cleanS at e
  simp only at e
  generalize hl : (reach 300 h (refsS (maskS live 0 s) ++ (h.take ρ0.length).flatMap refsO) []).filter (fun i => decide (ρ0.length ≤ i)) = l at e
  generalize hm : List.range ρ0.length ++ l = m at e
  by_cases hn : nodupB m = true
  · rw [if_pos hn] at e
    split at e
    · rename_i s3 hs
      split at e
      · rename_i h3 hh
        cases e
        obtain ⟨R2, mv, sub, at_⟩ := sel_ok R1 (nodupB_ok hn) hh
        have hlen : ρ0.length ≤ ρ1.length := S1.pre.length_le
        refine ⟨pickA ρ1 m, ⟨?_, fun b hb => S1.new b (sub b hb), S1.keep, S1.frz⟩, R2, ?_⟩
        · have e : ρ1.take ρ0.length = ρ0 := by
            obtain ⟨c, hc⟩ := S1.pre
            rw [← hc]; simp
          have q := range_take (l := l) (n0 := ρ0.length) hm.symm ρ1 hlen
          rw [e] at q
          exact q
        · obtain ⟨h1, h2⟩ := renSl_get hs
          refine ⟨by rw [h1, mask_len]; exact L1.len, fun j w hj => ?_⟩
          obtain ⟨v, hv, rv⟩ := h2 j w hj
          obtain ⟨x, hx, rx⟩ := L1.at_ j v (mask_get live s 0 j v hv)
          exact ⟨x, hx, ren_ok mv _ _ _ rx rv⟩
      · cases e
    · cases e
  · rw [if_neg hn] at e; cases e
def forC (n0 : Nat) (live : List Nat) (it : It') (t : Tg) (body : Ds) : Nat → Nat → Ds
  | 0, _, _, _ => .no
  | f + 1, i, s0, h0 => match cleanS n0 live s0 h0 with
    | none => .no
    | some (s, h) => match nxt it i h with
      | none => .no
      | some none => .nx s h
      | some (some v) => match setT t v s h with
        | none => .no
        | some s1 => match body s1 h with
          | .nx s2 h2 => forC n0 live it t body f (i + 1) s2 h2
          | .ct s2 h2 => forC n0 live it t body f (i + 1) s2 h2
          | .bk s2 h2 => .nx s2 h2
          | .rt v h2 => .rt v h2
          | .ex c s2 h2 => .ex c s2 h2
          | .no => .no
def dForC (live : List Nat) (di : Di) (t : Tg) (body : Ds) : Ds := fun s h => (di s h).bindS s fun it h1 => forC h1.length live it t body (itLen it h1 + 1) 0 s h1
section
variable {g : Gd} {X : Cx} {W : WX} {n : Nat} {pos : Pos} {tg iter : Expr}
theorem s_forC (live : List Nat) {b : Bool} {body : List Stmt} {di : Di} {t : Tg} {f : Ds} (hi : SI g X W n b tg iter di) (hg : SG g X b tg t) (hb : SB g X W n body f) (hs : ∀ x, foldedSetIterable iter X.env x = pure x := by intro _; rfl) :
    SS g X W n (.For tg iter body [] pos) (dForC live di t f) := by
  intro C
  refine (ps_for C.pass C.calm (hi C) (hg C.K C.calm C.nd) (hb C) hs).imp ?_
  rintro D σ H ⟨ρ, s, hp, R, L, h⟩
  refine ⟨ρ, s, hp, R, L, ?_⟩
  unfold dForC at h
  cases q : di s hp with
  | no => rw [q] at h; exact h
  | ex c h1 => rw [q] at h; exact fun ρ1 H1 S1 R1 => h ρ1 H1 σ S1 R1 (L.step R S1)
  | ok it h1 =>
    rw [q] at h
    intro ρ0 H0 J S0 R0 hJ
    have h' := PoS.at h S0
    simp only [Rs.bindS] at h'
    rw [← R0.len] at h'
    refine ⟨fun i m σ1 H1 => ∃ ρ1 s1 h2, Sp1 ρ0 H0 ρ1 H1 ∧ Rh g ρ1 H1 h2 ∧ Rsl g ρ1 H1 s1 σ1 ∧ PoS g ρ0 H0 (forC ρ0.length live it t f m i s1 h2) D W, ⟨itLen it h1 + 1, ρ0, s, h1, .refl _ _, R0, L.step R S0, h'⟩, ?_⟩
    rintro i m σ1 H1 ⟨ρ1, s1, h2, S1, R1, L1, p1⟩
    cases m with
    | zero => exact p1.elim
    | succ m =>
      unfold forC at p1
      cases hc : cleanS ρ0.length live s1 h2 with
      | none => rw [hc] at p1; exact p1.elim
      | some w =>
        obtain ⟨s1', h2'⟩ := w
        rw [hc] at p1
        simp only at p1
        obtain ⟨ρ2, S1', R1', L1'⟩ := clean_ok S1 R1 L1 hc
        clear S1 R1 L1 hc
        split at p1
        · exact p1.elim
        · rename_i hq
          exact .inl ⟨hJ i ρ2 H1 h2' none S1' R1' hq, p1 ρ2 H1 σ1 S1' R1' L1'⟩
        · rename_i v hq
          obtain ⟨hgo, hy⟩ := hJ i ρ2 H1 h2' (some v) S1' R1' hq
          refine .inr ⟨hgo, fun σ' H' => ∃ ρ1 s1 h2, Sp1 ρ0 H0 ρ1 H' ∧ Rh g ρ1 H' h2 ∧ Rsl g ρ1 H' s1 σ' ∧ PoS g ρ0 H0 (forC ρ0.length live it t f m (i + 1) s1 h2) D W, fun σ' H' w => ⟨m, Nat.lt_succ_self m, w⟩, fun x H2 hyl => ?_⟩
          obtain ⟨S2, R2, ry⟩ := hy x H2 hyl
          split at p1
          · exact p1.elim
          · rename_i s2 hset
            refine ⟨ρ2, s1', h2', v, s2, R2, L1'.step R1' S2, ry, hset, fun σ' L' _ => ⟨ρ2, s2, h2', R2, L', ?_⟩⟩
            have SS := S1'.trans S2
            cases qb : f s2 h2' with
            | nx s3 h3 => rw [qb] at p1; exact fun ρ3 H3 σ3 S3 R3 L3 => ⟨ρ3, s3, h3, SS.trans S3, R3, L3, p1⟩
            | ct s3 h3 => rw [qb] at p1; exact fun ρ3 H3 σ3 S3 R3 L3 => ⟨ρ3, s3, h3, SS.trans S3, R3, L3, p1⟩
            | bk s3 h3 => rw [qb] at p1; exact fun ρ3 H3 σ3 S3 R3 L3 => p1 ρ3 H3 σ3 (SS.trans S3) R3 L3
            | rt v h3 => rw [qb] at p1; exact fun ρ3 H3 x3 S3 R3 L3 => p1 ρ3 H3 x3 (SS.trans S3) R3 L3
            | ex c s3 h3 => rw [qb] at p1; exact fun ρ3 H3 x3 S3 R3 L3 => p1 ρ3 H3 x3 (SS.trans S3) R3 L3
            | no => rw [qb] at p1; exact p1
end

/-! ### a def, as the head tells it -/
section
variable {P : Program} {w : World} {g : Gd} {mg : Str → Option Value} {base : Heap}
def fdO (K : PySem.W.Frag) (a : Addr) : Option FuncData := match K.lookup a with
  | some ⟨_, _, .func fd, _⟩ => some fd
  | _ => none
theorem fdO_of {K : PySem.W.Frag} {x qual : Str} {params : Arguments} {body : List Stmt} {scope : Scope} {dvs : List V} {kws : List (Str × V)} {f : Addr} {fd : FuncData} (F : FunD K x qual params body scope dvs kws f fd) : fdO K f = some fd := by
  obtain ⟨oc, od, dV, kV, doc, pm, an, cdv, ct, osl, rfl, lk, _⟩ := F.ex
  unfold fdO
  rw [lk]
def Okf (P : Program) (w : World) (g : Gd) (mg : Str → Option Value) (base : Heap) (k : Nat) (x : Str) (ps : List Str) (np : Nat) (F : Fn) : Prop :=
  mg x = some (.ref (He.ga g.K x)) ∧ PySem.W.keepIn g.K (.ref (He.ga g.K x)) = true ∧ ∃ fd, fdO g.K (He.ga g.K x) = some fd ∧ FnOk P w g.K mg base (L2.CX P w) k (He.ga g.K x) fd ps (spD g np F) ∧ Binds g.K fd ps []
theorem Okf.mono {j k : Nat} {x : Str} {ps : List Str} {np : Nat} {F : Fn} (h : Okf P w g mg base j x ps np F) (hj : j ≤ k) : Okf P w g mg base k x ps np F := by
  obtain ⟨h1, h2, fd, h0, h3, h4⟩ := h
  exact ⟨h1, h2, fd, h0, h3.mono hj, h4⟩
def noF : Fn := fun _ _ => .no
abbrev FnP (K : PySem.W.Frag) (x : Str) (st : Stmt) : Prop := ∃ fd, FunD K x x (defArgs st) (defBody st) (defScope st) [] [] (He.ga K x) fd
abbrev BindsAll (x : Str) (st : Stmt) (ps : List Str) : Prop := ∀ (kV doc pm : Value) (an : Option Addr) (cdv ct : Value) (us : List Value), us.length = ps.length → bindArgs (PySem.W.fnOf x x (defArgs st) (defBody st) (defScope st) .none kV doc pm an cdv ct) ⟨us, []⟩ = pure (ps.zip us)
theorem Okf.no {x : Str} {st : Stmt} {ps : List Str} {np k : Nat} (F : FnP g.K x st) (hm : mg x = some (.ref (He.ga g.K x))) (hb : BindsAll x st ps) (hp : ps.length = np) : Okf P w g mg base k x ps np noF := by
  obtain ⟨fd, F⟩ := F
  refine ⟨hm, F.kp, fd, fdO_of F, ⟨fun vs H Q E h => by rw [hp]; exact h.1, fun A outer s H args us vs Q E _ _ _ _ h => ?_⟩, F.bindsN hb⟩
  obtain ⟨_, ρ, hh, xs, R, r, q⟩ := h
  exact q.elim
theorem mk_fn {x : Str} {st : Stmt} {N ps : List Str} {k nN np : Nat} {b : Ds} (F : FnP g.K x st) (hm : mg x = some (.ref (He.ga g.K x))) (hb : BindsAll x st ps) (S : FnScope N ps (defScope st)) (hN : N.length = nN) (hp : ps.length = np)
    (body : ∀ (f : Addr) (cdv : Value) (A : Around) (outer : List Env) (s : Shared) (H : Hp) (E : XK), SB g (cxOf (L2.CX P w) P w g.K mg base N x (defScope st) f cdv A outer s H E) (fun c d _ H' => E c d H') k (defBody st) b) :
    Okf P w g mg base (k + 1) x ps np (fnD nN b) := by
  obtain ⟨fd, F⟩ := F
  refine ⟨hm, F.kp, fd, fdO_of F, ?_, F.bindsN hb⟩
  refine F.ok S (fun vs H Q E h => by rw [hp]; exact h.1) fun cdv A outer s H vs Q E hr h => ?_
  obtain ⟨hl, ρ, hh, xs, R, r, q⟩ := h
  have tk : Takes (cxOf (L2.CX P w) P w g.K mg base N x (defScope st) (He.ga g.K x) cdv A outer s H E) (fun c d _ H' => E c d H') := takes_of rfl rfl rfl rfl
  refine ⟨_, body (He.ga g.K x) cdv A outer s H E ⟨rfl, tk, rfl, S.nd, hr, passes_of rfl⟩, ρ, xs.map some ++ List.replicate (nN - xs.length) none, hh, R, ?_, ?_⟩
  · have hx := r.length
    refine ⟨by simp [L2.start, hN, hx], fun i x e => ?_⟩
    by_cases hi : i < xs.length
    · rw [List.getElem?_append_left (by simpa using hi), List.getElem?_map] at e
      obtain ⟨y, ey, e2⟩ := Option.map_eq_some_iff.mp e
      cases e2
      obtain ⟨v, ev, rv⟩ := r.get ey
      refine ⟨v, ?_, rv⟩
      unfold L2.start
      rw [List.getElem?_append_left (by simp; omega), List.getElem?_map, ev]
      rfl
    · rw [List.getElem?_append_right (by simp; omega), List.getElem?_replicate] at e
      split at e <;> cases e
  · unfold fnD at q
    rw [← R.len] at q
    have q2 := compact_ok q
    cases qb : b (xs.map some ++ List.replicate (nN - xs.length) none) hh with
    | nx s1 h1 => rw [qb] at q2; exact fun ρ1 H1 σ1 S1 R1 L1 => q2 ρ1 H1 .non S1 R1 (by simp only [Rv])
    | rt v h1 => rw [qb] at q2; exact q2
    | ex c s1 h1 => rw [qb] at q2; exact fun ρ1 H1 σ1 S1 R1 L1 => q2 ρ1 H1 S1 R1
    | bk s1 h1 => rw [qb] at q2; exact q2.elim
    | ct s1 h1 => rw [qb] at q2; exact q2.elim
    | no => rw [qb] at q2; exact q2.elim
end
section
variable {g : Gd} {X : Cx} {W : WX} {n : Nat}
/-- f(..) of a def that keeps its promise -/
theorem e_callF {np : Nat} {F : Fn} {ps : List Str} {x : Str} {p pos : Pos} {e : Expr} {es : List Expr} {a : Da} (O : Okf X.prog X.w g X.mg X.base n x ps np F) (hK : X.K = g.K) (ha : SA g X W n (e :: es) a)
    (hg : Gl X x := by rfl) (hdb : (x == ("__debug__" : Str)) = false := by decide) (he : starEach (e :: es) X.env = (false, eval e X.env) :: starEach es X.env := by rfl) (hpl : (backTo pos (starEach es X.env)).any (·.1) = false := by rfl) :
    SE g X W n (.Call (.Name x p) (e :: es) [] pos) (dCall F np a) := by
  obtain ⟨h1, h2, fd, _, h3, h4⟩ := O
  rw [← hK] at h1 h2 h3 h4
  exact e_call h3 h4 h1 h2 (Nat.le_refl _) ha hg hdb he hpl

/-! ### constants of a module, seen in the written part -/
end
def vaB (K : PySem.W.Frag) : Nat → Va → Value → Bool
  | _, .non, .none => true
  | _, .bl b, .bool c => b == c
  | _, .int i, .int j _ => decide (i = j)
  | _, .str x, .str y _ => decide (x = y)
  | n + 1, .tup xs, .ref a => match K.lookup a with
    | some o => decide (o.cls = .type "tuple") && (decide (o.dict = none) && (match o.data with
      | .seq its _ => decide (its.size ≤ 1000) && (decide (its.size = xs.length) && (xs.zip its.toList).all fun p => vaB K n p.1 p.2)
      | _ => false))
    | none => false
  | _, _, _ => false
/-- what stands in the written part is what it is at every heap -/
theorem vaB_ok {g : Gd} : ∀ (n : Nat) (v : Va) (u : Value), vaB g.K n v u = true → ∃ y, RelV y u ∧ Steady g v y
  | n, .non, u, h => by
    cases u <;> (cases n <;> simp only [vaB] at h <;> first | exact absurd h Bool.false_ne_true | exact ⟨.non, rfl, fun _ _ => mk_non⟩)
  | n, .bl b, u, h => by
    cases u with
    | bool c =>
      have : b = c := by cases n <;> simpa only [vaB, beq_iff_eq] using h
      subst this
      exact ⟨.bl b, rfl, fun _ _ => mk_bl⟩
    | _ => cases n <;> simp only [vaB] at h <;> exact absurd h Bool.false_ne_true
  | n, .int i, u, h => by
    cases u with
    | int j t =>
      have : i = j := by cases n <;> simpa only [vaB, decide_eq_true_eq] using h
      subst this
      exact ⟨.int i, ⟨t, rfl⟩, fun _ _ => mk_int⟩
    | _ => cases n <;> simp only [vaB] at h <;> exact absurd h Bool.false_ne_true
  | n, .str x, u, h => by
    cases u with
    | str y t =>
      have : x = y := by cases n <;> simpa only [vaB, decide_eq_true_eq] using h
      subst this
      exact ⟨.str x, ⟨t, rfl⟩, fun _ _ => mk_str⟩
    | _ => cases n <;> simp only [vaB] at h <;> exact absurd h Bool.false_ne_true
  | 0, .tup xs, u, h => by cases u <;> simp only [vaB] at h <;> exact absurd h Bool.false_ne_true
  | n + 1, .tup xs, u, h => by
    cases u with
    | ref a =>
      simp only [vaB] at h
      cases hl : g.K.lookup a with
      | none => rw [hl] at h; exact absurd h Bool.false_ne_true
      | some o =>
        rw [hl] at h
        simp only [Bool.and_eq_true, decide_eq_true_eq] at h
        obtain ⟨hc, hd, h⟩ := h
        cases ho : o.data with
        | seq its c =>
          rw [ho] at h
          simp only [Bool.and_eq_true, decide_eq_true_eq] at h
          obtain ⟨h1, h2, h3⟩ := h
          have key : ∀ (xs : List Va) (us : List Value), us.length = xs.length → ((xs.zip us).all fun p => vaB g.K n p.1 p.2) = true → ∃ ys, Vals ys us ∧ ∀ ρ H, Rvs g ρ H xs ys := by
            intro xs
            induction xs with
            | nil => intro us e _; cases us with
              | nil => exact ⟨[], .nil, fun _ _ => Rvs.nil⟩
              | cons _ _ => simp at e
            | cons x t ih =>
              intro us e h
              cases us with
              | nil => simp at e
              | cons u ut =>
                simp only [List.zip_cons_cons, List.all_cons, Bool.and_eq_true] at h
                obtain ⟨y, ry, sy⟩ := vaB_ok n x u h.1
                obtain ⟨ys, rs, ss⟩ := ih ut (by simpa using e) h.2
                exact ⟨y :: ys, .cons ry rs, fun ρ H => Rvs.cons (sy ρ H) (ss ρ H)⟩
          obtain ⟨ys, rs, ss⟩ := key xs its.toList (by simpa using h2) h3
          refine ⟨.ref a, rfl, fun ρ H => ?_⟩
          simp only [Rv]
          exact ⟨a, ys, rfl, .inr ⟨o, its, c, hl, hc, hd, ho, by rw [sizeLine_eq]; omega, rs⟩, ss ρ H⟩
        | _ => rw [ho] at h; exact absurd h Bool.false_ne_true
    | _ => simp only [vaB] at h; exact absurd h Bool.false_ne_true
  | n, .ty _, u, h => by cases u <;> (cases n <;> simp only [vaB] at h <;> exact absurd h Bool.false_ne_true)
  | n, .gl _, u, h => by cases u <;> (cases n <;> simp only [vaB] at h <;> exact absurd h Bool.false_ne_true)
  | n, .scr, u, h => by cases u <;> (cases n <;> simp only [vaB] at h <;> exact absurd h Bool.false_ne_true)
  | n, .ref _, u, h => by cases u <;> (cases n <;> simp only [vaB] at h <;> exact absurd h Bool.false_ne_true)
def conB (K : PySem.W.Frag) (x : Str) (v : Va) : Bool := match PySem.W.nsIn K mainGlobals x with
  | some (some u) => vaB K 9 v u
  | _ => false
def Con1 (g : Gd) (mg : Str → Option Value) (x : Str) (v : Va) : Prop := ∃ u y, mg x = some u ∧ RelV y u ∧ Steady g v y
theorem conB_ok {g : Gd} {h : Heap} {mg : Str → Option Value} (X : g.K.In h) (G : h.Ns mainGlobals mg) {x : Str} {v : Va} (c : conB g.K x v = true) : Con1 g mg x v := by
  unfold conB at c
  split at c
  · rename_i u hu
    obtain ⟨y, r, s⟩ := vaB_ok 9 v u c
    exact ⟨u, y, PySem.W.mg_of X G hu, r, s⟩
  · cases c
theorem e_con {g : Gd} {X : Cx} {W : WX} {n : Nat} {x : Str} {v : Va} {pos : Pos} (c : Con1 g X.mg x v) (hg : Gl X x := by rfl) (hd : (x == ("__debug__" : Str)) = false := by decide) : SE g X W n (.Name x pos) (dC v) := by
  obtain ⟨u, y, h1, h2, h3⟩ := c
  exact e_glob h1 h2 h3 hg hd
end Wr

set_option Elab.async false
set_option linter.all false
set_option maxRecDepth 100000
set_option maxHeartbeats 4000000
set_option autoImplicit false
namespace Wr
open PySem PySem.Spec PyProof.Rows L2
/-- a law's end: what it may let out may hang on the world -/
theorem walk_w {l : PySem.W.OpenLaw} {n k : Nat} {q : Program} {loose : List Str} {XP : (Str → Option Value) → Heap → Prop} {YP : World → Heap → Prop} {d : DefRec} {CX : World → CXT} {x : Str}
    (hn : l.most = some n) (hn2 : n ≤ sizeLine) (hdf : d.params.defaults = []) (hr : Room k callerA)
    (F : ∀ (w : World) (mg : Str → Option Value) (fa : Addr) (h : Heap), YP w h → h.Ns mainGlobals mg → mg d.name = some (.ref fa) →
      ∃ (K : PySem.W.Frag) (fd : FuncData) (sp : Sp), K.In h ∧ (∀ (s : Shared) (u : Value), BindsTo s fd ⟨[u], []⟩ [(x, u)]) ∧
        (∀ (H : Hp) (a : Addr) (ns : List Int), ns.length ≤ n → Only H → SqL K H a (ns.map V.int) → sp [.ref a] H (fun v _ => v = .bl true) fun _ _ _ => False) ∧
        ∀ base : Heap, K.In base → base.Ns mainGlobals mg → FnOk l.prog w K mg base (CX w) k fa fd [x] sp)
    (hCX : ∀ (w : World) (H : Hp) (s : Shared) (e : Value) (s' : Shared), CX w [] H s (fun _ _ _ => False) e s' → False) :
    PySem.W.WalkO q loose XP YP l.row.toRowW d [] (fun f vs => PySem.call f vs) := by
  refine Att.attach_call hn hdf fun w s₀ s₁ mg mb fa o pm cd doc a vs ns G Y ho hd hcd hmg hobj hints hlen hg => ?_
  obtain ⟨K, fd, sp, KX, hb, hsp, hF⟩ := F w mg fa _ Y G.T.g hmg
  exact law_call KX G.T.g G.T.b G.T.builtins G.T.nolimit hg hobj hints (Nat.le_trans hlen hn2) hr hF hb (fun H hO hS => hsp H a ns hlen hO hS) fun H e s' => hCX w H s₁ e s'
theorem cx_false (P : Program) (w : World) (H : Hp) (s : Shared) (e : Value) (s' : Shared) (z : L2.CX P w [] H s (fun _ _ _ => False) e s') : False := by
  obtain ⟨a, B, H', cls, d, _, _, _, _, _, _, _, h⟩ := z
  exact h
def gd (K : PySem.W.Frag) (G : Nat → Addr) (sa : Addr) (ns : List Int) : Gd := ⟨K, G, sa, ns⟩
/-- the promise of a law: at each script -/
def spLaw (K : PySem.W.Frag) (G : Nat → Addr) (n : Nat) (F : List Int → Fn) : Sp := fun vs H Q E => ∃ sa ns, ns.length ≤ n ∧ spD (gd K G sa ns) 1 (F ns) vs H Q E
theorem law_ok {P : Program} {w : World} {K : PySem.W.Frag} {mg : Str → Option Value} {base : Heap} {G : Nat → Addr} {n k : Nat} {F : List Int → Fn} {fd : FuncData} (hfd : fdO K (He.ga K "law") = some fd)
    (h : ∀ sa ns, Okf P w (gd K G sa ns) mg base k "law" ["script"] 1 (F ns)) : FnOk P w K mg base (L2.CX P w) k (He.ga K "law") fd ["script"] (spLaw K G n F) := by
  refine ⟨fun vs H Q E z => ?_, fun A outer s H args us vs Q E hr he hb hv z => ?_⟩
  · obtain ⟨sa, ns, _, z⟩ := z
    exact z.1
  · obtain ⟨sa, ns, _, z⟩ := z
    obtain ⟨_, _, fd', h0, h1, _⟩ := h sa ns
    have : fdO K (He.ga K "law") = some fd' := h0
    rw [hfd] at this
    cases this
    exact h1.run A outer s H args us vs Q E hr he hb hv z
theorem law_sp {K : PySem.W.Frag} {G : Nat → Addr} {n : Nat} {F : List Int → Fn} (ok : ∀ ns : List Int, ns.length ≤ n → ∃ h, F ns [.scr] [] = .ok (.bl true) h) (H : Hp) (a : Addr) (ns : List Int) (hl : ns.length ≤ n) (hO : Only H)
    (hS : SqL K H a (ns.map V.int)) : spLaw K G n F [.ref a] H (fun v _ => v = .bl true) fun _ _ _ => False := by
  obtain ⟨h, e⟩ := ok ns hl
  refine ⟨a, ns, hl, rfl, [], [], [.scr], ⟨rfl, List.nodup_nil, fun i a o h1 h2 => by simp at h1⟩, ?_, ?_⟩
  · refine Rvs.one ?_
    simp only [Rv]
    refine ⟨rfl, ?_⟩
    rcases hS with (h1 | ⟨o, h1⟩) | h1
    · rcases hO a with z | ⟨o, xs, z⟩
      · rw [z] at h1; cases h1
      · rw [z] at h1; cases h1
    · exact .inl ⟨o, h1⟩
    · exact .inr h1
  · rw [e]
    intro ρ' H' x S R r
    exact rv_bl r
end Wr

set_option Elab.async false
set_option linter.all false
set_option maxRecDepth 100000
set_option maxHeartbeats 4000000
set_option autoImplicit false
namespace Wr
open PySem PySem.Spec PyProof.Rows L2

/-! ### equality of values, by computing -/
mutual
def eqVa : Va → Va → Bool
  | .non, .non => true
  | .bl a, .bl b => a == b
  | .int a, .int b => decide (a = b)
  | .str a, .str b => decide (a = b)
  | .ty a, .ty b => decide (a = b)
  | .gl a, .gl b => decide (a = b)
  | .scr, .scr => true
  | .ref a, .ref b => decide (a = b)
  | .tup a, .tup b => eqVas a b
  | _, _ => false
def eqVas : List Va → List Va → Bool
  | [], [] => true
  | x :: xs, y :: ys => eqVa x y && eqVas xs ys
  | _, _ => false
end
mutual
theorem eqVa_ok : ∀ (a b : Va), eqVa a b = true → a = b
  | .non, b, h => by cases b <;> simp [eqVa] at h ⊢
  | .bl a, b, h => by cases b <;> simp [eqVa] at h ⊢ <;> exact h
  | .int a, b, h => by cases b <;> simp [eqVa] at h ⊢ <;> exact h
  | .str a, b, h => by cases b <;> simp [eqVa] at h ⊢ <;> exact h
  | .ty a, b, h => by cases b <;> simp [eqVa] at h ⊢ <;> exact h
  | .gl a, b, h => by cases b <;> simp [eqVa] at h ⊢ <;> exact h
  | .scr, b, h => by cases b <;> simp [eqVa] at h ⊢
  | .ref a, b, h => by cases b <;> simp [eqVa] at h ⊢ <;> exact h
  | .tup a, b, h => by
    cases b with
    | tup c => simp only [eqVa] at h; rw [eqVas_ok a c h]
    | _ => simp [eqVa] at h
theorem eqVas_ok : ∀ (a b : List Va), eqVas a b = true → a = b
  | [], b, h => by cases b <;> simp [eqVas] at h ⊢
  | x :: xs, b, h => by
    cases b with
    | nil => simp [eqVas] at h
    | cons y ys =>
      simp only [eqVas, Bool.and_eq_true] at h
      rw [eqVa_ok x y h.1, eqVas_ok xs ys h.2]
end
def eqL {α : Type} (f : α → α → Bool) : List α → List α → Bool
  | [], [] => true
  | x :: xs, y :: ys => f x y && eqL f xs ys
  | _, _ => false
theorem eqL_ok {α : Type} {f : α → α → Bool} (hf : ∀ a b, f a b = true → a = b) : ∀ (a b : List α), eqL f a b = true → a = b
  | [], b, h => by cases b <;> simp [eqL] at h ⊢
  | x :: xs, b, h => by
    cases b with
    | nil => simp [eqL] at h
    | cons y ys =>
      simp only [eqL, Bool.and_eq_true] at h
      rw [hf x y h.1, eqL_ok hf xs ys h.2]
def eqO {α : Type} (f : α → α → Bool) : Option α → Option α → Bool
  | none, none => true
  | some x, some y => f x y
  | _, _ => false
theorem eqO_ok {α : Type} {f : α → α → Bool} (hf : ∀ a b, f a b = true → a = b) : ∀ (a b : Option α), eqO f a b = true → a = b
  | none, b, h => by cases b <;> simp [eqO] at h ⊢
  | some x, b, h => by
    cases b with
    | none => simp [eqO] at h
    | some y => simp only [eqO] at h; rw [hf x y h]
def eqKV {κ : Type} [DecidableEq κ] (a b : κ × Va) : Bool := decide (a.1 = b.1) && eqVa a.2 b.2
theorem eqKV_ok {κ : Type} [DecidableEq κ] (a b : κ × Va) (h : eqKV a b = true) : a = b := by
  simp only [eqKV, Bool.and_eq_true, decide_eq_true_eq] at h
  obtain ⟨a1, a2⟩ := a
  obtain ⟨b1, b2⟩ := b
  rw [show a1 = b1 from h.1, show a2 = b2 from eqVa_ok _ _ h.2]
def eqOb : Ob → Ob → Bool
  | .lst a, .lst b => eqVas a b
  | .dK a, .dK b => eqL eqKV a b
  | .dT a, .dT b => eqL eqKV a b
  | .dF a, .dF b => eqL eqKV a b
  | .ins c a, .ins d b => decide (c = d) && eqL eqKV a b
  | _, _ => false
theorem eqOb_ok (a b : Ob) (h : eqOb a b = true) : a = b := by
  cases a <;> cases b <;> simp only [eqOb, Bool.and_eq_true, decide_eq_true_eq] at h <;> first | exact absurd h Bool.false_ne_true | skip
  · rw [eqVas_ok _ _ h]
  · rw [eqL_ok eqKV_ok _ _ h]
  · rw [eqL_ok eqKV_ok _ _ h]
  · rw [eqL_ok eqKV_ok _ _ h]
  · rw [h.1, eqL_ok eqKV_ok _ _ h.2]
def eqSg (a b : Sg) : Bool := eqL (eqO eqVa) a b
theorem eqSg_ok {a b : Sg} (h : eqSg a b = true) : a = b := eqL_ok (eqO_ok eqVa_ok) a b h
def eqHs (a b : Hs) : Bool := eqL eqOb a b
theorem eqHs_ok {a b : Hs} (h : eqHs a b = true) : a = b := eqL_ok eqOb_ok a b h
/-- r ends next, and is, tidied, the state s0, h0 -/
def endsAt (n0 : Nat) (live : List Nat) (s0 : Sg) (h0 : Hs) (r : RS) : Bool := match r with
  | .nx s h => match cleanS n0 live s h with
    | some (s2, h2) => eqSg s2 s0 && eqHs h2 h0
    | none => false
  | _ => false
theorem endsAt_ok {n0 : Nat} {live : List Nat} {s0 : Sg} {h0 : Hs} {r : RS} (h : endsAt n0 live s0 h0 r = true) : ∃ s2 h2, r = .nx s2 h2 ∧ cleanS n0 live s2 h2 = some (s0, h0) := by
  unfold endsAt at h
  split at h
  · rename_i s h'
    split at h
    · rename_i s2 h2 e
      rw [Bool.and_eq_true] at h
      rw [eqSg_ok h.1, eqHs_ok h.2] at e
      exact ⟨s, h', rfl, e⟩
    · cases h
  · cases h
def isT (r : Rs Va) : Bool := match r with
  | .ok (.bl true) _ => true
  | _ => false
theorem isT_ok {r : Rs Va} (h : isT r = true) : ∃ h', r = .ok (.bl true) h' := by
  unfold isT at h
  split at h
  · exact ⟨_, rfl⟩
  · cases h
/-! ### loops whose state comes back -/
theorem forC_const {n0 : Nat} {live : List Nat} {it : It'} {t : Tg} {body : Ds} {s0 : Sg} {h0 : Hs} (N : Nat) (hend : nxt it N h0 = some none)
    (step : ∀ j, j < N → ∃ v s1 s2 h2, nxt it j h0 = some (some v) ∧ setT t v s0 h0 = some s1 ∧ body s1 h0 = .nx s2 h2 ∧ cleanS n0 live s2 h2 = some (s0, h0)) :
    ∀ (f j : Nat) (s : Sg) (h : Hs), j + f = N + 1 → 0 < f → cleanS n0 live s h = some (s0, h0) → forC n0 live it t body f j s h = .nx s0 h0
  | 0, _, _, _, _, z, _ => absurd z (Nat.lt_irrefl 0)
  | f + 1, j, s, h, e, _, hc => by
    unfold forC
    rw [hc]
    simp only
    by_cases hj : j = N
    · subst hj
      rw [hend]
    · obtain ⟨v, s1, s2, h2, e1, e2, e3, e4⟩ := step j (by omega)
      rw [e1]
      simp only
      rw [e2]
      simp only
      rw [e3]
      simp only
      exact forC_const N hend step f (j + 1) s2 h2 (by omega) (by omega) e4
/-! ### calls of plain values -/
theorem mix_nil (os : Hs) : ∀ (hp : Hs) (j : Nat), mix [] os j hp = hp
  | [], _ => rfl
  | o :: t, j => by simp [mix, mix_nil os t (j + 1), idx]
theorem callD_flat {F : Fn} {args : List Va} {v : Va} {hp : Hs} (h1 : refsVs args = []) (h2 : rens (idx []) args = some args) (h3 : ren (bkI [] hp.length) v = some v) (h : F args [] = .ok v []) : callD F args hp = .ok v hp := by
  unfold callD
  rw [h1]
  have e : reach 300 hp [] [] = [] := rfl
  simp only [e]
  have e2 : nodupB [] = true := rfl
  rw [if_pos e2, h2]
  have e3 : selO [] hp [] = some [] := rfl
  simp only [e3]
  rw [h]
  simp only [back, h3]
  have e4 : backH [] hp [] = some hp := by
    unfold backH
    have e5 : renOs (bkI [] hp.length) [] = some [] := rfl
    rw [e5]
    simp [mix_nil]
  rw [e4]
end Wr

set_option Elab.async false
set_option linter.all false
set_option maxRecDepth 100000
set_option maxHeartbeats 4000000
set_option autoImplicit false
namespace Wr
open PySem PySem.Spec PyProof.Rows L2
/-! ### sorted of a tuple of ints -/
section
variable {prog : Program} {w : World} {A : Around} {E : Value → Shared → Prop} {s : Shared}
theorem collect_tup {l : Addr} {vs : List Value} {Q : List Value → Shared → Prop} (hl : s.heap.IsTuple l vs.toArray) (hsz : vs.length ≤ sizeLine)
    (h : Q vs { s with heap := (s.heap.push (seqObj "list" #[] 0)).update s.heap.objs.size (Obj.mapSeq (· ++ vs.toArray)) }) :
    wpAny (model prog w) A (collect (.ref l)) Q E s := by
  obtain ⟨o, ho, hc, n, hd⟩ := id hl
  unfold collect
  refine wpAny_bind (wpAny_runValue (codeAny_builtin entry_proto_collect' ?_))
  show wpAny _ _ (do again (.builtin "list.__iadd__" ⟨[← newList [], .ref l], []⟩)) _ _ s
  refine wpAny_bind (wpAny_newList (wpAny_pure ⟨Code.quiet_builtin _ (by decide +kernel), codeAny_builtin entry_list_iadd' ?_⟩))
  show wpAny _ _ (Builtin.List.listExtendWith (.ref s.heap.objs.size) (.ref l) (.ref s.heap.objs.size)) _ _ { s with heap := s.heap.push (seqObj "list" #[] 0) }
  unfold Builtin.List.listExtendWith
  have ho' : (s.heap.push (seqObj "list" #[] 0)).get? l = some o := Heap.get?_push_of_some _ ho
  refine wpAny_bind (wpAny_typeOf (T := "tuple") ⟨o, ho', hc⟩ ?_)
  have ht : (Value.type "tuple" == Value.type "tuple") = true := by rfl
  rw [if_pos (by rw [ht]; simp)]
  refine wpAny_bind (listItems_at ho' hd ?_)
  refine wpAny_bind (listItems_at (xs := #[]) (n := 0) (Heap.get?_push_size _ rfl) rfl ?_)
  rw [if_neg (by simp)]
  refine wpAny_bind (listUpdate_at (xs := #[]) (n := 0) (Heap.get?_push_size _ rfl) rfl ?_ (Nat.zero_le _) (by show (#[] ++ vs.toArray).size ≤ sizeLine + 1; simp only [Array.size_append, List.size_toArray, List.length_nil]; omega))
  refine wpAny_pure ?_
  show wpAny (model prog w) A (do
      let o ← load s.heap.objs.size
      match o.data with
      | .seq xs _ => pure xs.toList
      | _ => unsupported "internal:collect") Q E { s with heap := (s.heap.push (seqObj "list" #[] 0)).update s.heap.objs.size (Obj.mapSeq (· ++ vs.toArray)) }
  refine wpAny_bind (wpAny_load (get?_update_seq (Heap.get?_push_size _ rfl) _) ?_)
  show wpAny _ _ (pure ((#[] : Array Value) ++ vs.toArray).toList) Q E _
  rw [show ((#[] : Array Value) ++ vs.toArray).toList = vs by simp]
  exact wpAny_pure h
theorem sorted_tup {l : Addr} {vs : List Value} {ns : List Int} {Q : Value → Shared → Prop} (hl : s.heap.IsTuple l vs.toArray) (hI : IntsAre vs ns) (hL : vs.length ≤ sizeLine)
    (h : ∀ (out : Array Value) (ns' : List Int), IntsAre out.toList ns' → ns'.Perm ns → ns'.Pairwise (· ≤ ·) → Q (.ref (s.heap.objs.size + 1)) { s with heap := sortedAll s.heap vs out }) :
    wpAny (model prog w) A (call (.builtin "sorted") [.ref l]) Q E s := by
  refine Calls.call_function_entry kind_sorted plain_sorted entry_sorted (args_sorted1 _) ?_
  unfold Builtin.«sorted»
  refine wpAny_bind (m := checkCount "sorted" 1 1 _) (wpAny_pure ?_)
  refine wpAny_bind (collect_tup hl hL ?_)
  refine wpAny_bind (wpAny_newList ?_)
  have hsz : ((s.heap.push (seqObj "list" #[] 0)).update s.heap.objs.size (Obj.mapSeq (· ++ vs.toArray))).objs.size = s.heap.objs.size + 1 := by
    rw [Heap.size_update, size_push']
  have hoL : (((s.heap.push (seqObj "list" #[] 0)).update s.heap.objs.size (Obj.mapSeq (· ++ vs.toArray))).push (seqObj "list" vs.toArray 0)).get? (s.heap.objs.size + 1) = some (seqObj "list" vs.toArray 0) := by
    rw [← hsz]; exact Heap.get?_push_size _ rfl
  show wpAny _ _ _ _ _ { s with heap := ((s.heap.push (seqObj "list" #[] 0)).update s.heap.objs.size (Obj.mapSeq (· ++ vs.toArray))).push (seqObj "list" vs.toArray 0) }
  rw [hsz]
  refine wpAny_bind (wpAny_holding (wpAny_call_entry slot_list_sort ⟨_, hoL, rfl⟩ entry_list_sort (list_sort_treeAny hoL hI hL fun out ns' a1 a2 a3 => ⟨_, rfl, ?_⟩) (args_list_sort _)))
  exact wpAny_pure ⟨_, rfl, h out ns' a1 a2 a3⟩
end
def rSortTI (K : PySem.W.Frag) : List V → Hp → VK → Prop := fun vs H Q => ∃ (a : Addr) (ns : List Int), vs = [V.ref a] ∧ SqT K H a (ns.map V.int) ∧
  ∀ (ns' : List Int) (p : Addr), ns'.Perm ns → ns'.Pairwise (· ≤ ·) → H p = none → Q (.ref p) (upd H p (.lst (ns'.map V.int)))
theorem cr_sortTI {X : Cx} : CallR X (.builtin "sorted") (rSortTI X.K) := by
  intro pins s σ H vs us Q I r h
  obtain ⟨a, ns, rfl, hs, q⟩ := h
  obtain ⟨its, rv, hl, hz⟩ := I.tuple hs
  rw [Vals.ref1 r]
  have hi := rv.ints
  refine sorted_tup (vs := its) hl hi (by rw [← rv.length]; exact hz) fun out ns' h1 h2 h3 => ?_
  obtain ⟨ep, he'⟩ := PyProof.Rows.sortedAll_at s.heap its out
  have hlen : (ns'.map V.int).length ≤ sizeLine := by
    rw [List.length_map, h2.length_eq]
    rw [List.length_map] at hz
    exact hz
  exact ⟨.ref _, upd H (s.heap.objs.size + 1) (.lst (ns'.map V.int)), I.laid (t' := s.toks) (fun _ _ => PyProof.Rows.sortedAll_old) (Nat.le_succ _) ⟨hlen, out.toList, ep, vals_of_ints h1, he'⟩, rfl, q ns' _ h2 h3 (I.hok.fresh (Nat.le_succ _))⟩
section
variable {g : Gd}
def kSortA : K1 := fun xs h => match xs with
  | [.tup ys] => (intsV ys).map fun ns => (.ref h.length, h ++ [.lst ((sortI ns).map Va.int)])
  | _ => kSortI xs h
theorem c_sortA : CallC g (.builtin "sorted") (fun xs H Q => rSortedI g.K xs H Q ∨ rSortTI g.K xs H Q) := fun X hK _ _ => hK ▸ CallR.or cr_sortedI cr_sortTI
theorem p_sortA : PC1 g (fun xs H Q => rSortedI g.K xs H Q ∨ rSortTI g.K xs H Q) kSortA := by
  intro ρ H hp xs vs v h' Q R r e q
  unfold kSortA at e
  split at e
  · obtain ⟨ns, h2, e⟩ := Option.map_eq_some_iff.mp e
    cases e
    obtain ⟨w, rfl, rw'⟩ := r.inv1
    simp only [Rv] at rw'
    obtain ⟨a, us, rfl, ht, rv⟩ := rw'
    have := intsV_rv rv h2
    subst this
    refine .inr ⟨a, ns, rfl, ht.sqT, fun ns' p hp1 hs hn => ?_⟩
    obtain rfl := sorted_same (hp1.trans (sortI_perm ns).symm) hs (sortI_sorted ns)
    obtain ⟨S4, R4, r4⟩ := new_lst R hn (intsV_back (g := g) (sortI ns))
    exact q _ _ _ S4 R4 r4
  · exact .inl (p_sortI ρ H hp xs vs v h' Q R r e q)
end
/-! ### what is dead is forgotten -/
def dDrop (live : List Nat) (k : Ds) : Ds := fun s h => k (maskS live 0 s) h
theorem b_drop {g : Gd} {X : Cx} {W : WX} {n : Nat} {sts : List Stmt} {k : Ds} (live : List Nat) (h : SB g X W n sts k) : SB g X W n sts (dDrop live k) :=
  fun C => (h C).imp fun D σ H ⟨ρ, s, hp, R, L, q⟩ => ⟨ρ, maskS live 0 s, hp, R, L.forget (mask_len live s 0) (fun i x e => mask_get live s 0 i x e), q⟩
end Wr

set_option Elab.async false
set_option linter.all false
set_option maxRecDepth 100000
set_option maxHeartbeats 4000000
set_option autoImplicit false
namespace Wr
open PySem PySem.Spec PyProof.Rows L2
/-! ### enumerate of a list or a tuple -/
theorem meets_enum_tup (l : Addr) (items : Array Value) (n : Nat) (dct : Option Addr) (sl : Array (Option Value)) :
    Meets (Builtin.«enumerate.__new__» ⟨[.type "enumerate", .ref l], []⟩) (fun _ R s => s.heap.get? l = some { cls := .type "tuple", dict := dct, data := .seq items n, slots := sl } ∧
      R (.ok (.ret (.ref (s.heap.push { cls := .type "tuple_iterator", data := .fields #[.ref l, .int 0 0] }).objs.size)))
        { s with heap := (s.heap.push { cls := .type "tuple_iterator", data := .fields #[.ref l, .int 0 0] }).push { cls := .type "enumerate", data := .fields #[.none, .bool false, .ref s.heap.objs.size, rawInt 0, .none, .none] } }) :=
  .of_wp fun prog w A R s h => by
    obtain ⟨hp, g, d, tk, os⟩ := s; obtain ⟨hl, h⟩ := h
    have hsub := sub_enumerate
    have hL : Heap.IsTuple (Shared.heap ⟨hp, g, d, tk, os⟩) l items := ⟨_, hl, rfl, n, rfl⟩
    wp_walk using wpAny_loadPart' hl
    refine wpAny_stack_any fun st => wpAny_pure ?_
    split
    · rename_i c _ _ _ _ _
      cases (c == Value.type "enumerate")
      · wp_walk using wpAny_loadPart' hl, wpAny_pyIter_tuple hL
        exact ⟨_, rfl, h⟩
      · wp_walk using wpAny_loadPart' hl, wpAny_pyIter_tuple hL
        exact ⟨_, rfl, h⟩
    · wp_walk using wpAny_loadPart' hl, wpAny_pyIter_tuple hL
      exact ⟨_, rfl, h⟩
section
variable {prog : Program} {w : World} {A : Around} {E : Value → Shared → Prop} {s : Shared}
theorem call_enum_tup {l : Addr} {items : Array Value} {Q : Value → Shared → Prop} (hL : s.heap.IsTuple l items)
    (h : ∀ h', IsEnum h' (s.heap.objs.size + 1) s.heap.objs.size 0 .none → h'.IsTupleIter s.heap.objs.size l 0 → h'.objs.size = s.heap.objs.size + 2 →
      (∀ b o, s.heap.get? b = some o → h'.get? b = some o) → Q (.ref (s.heap.objs.size + 1)) { s with heap := h' }) :
    wpAny (model prog w) A (call (.type "enumerate") [.ref l]) Q E s := by
  obtain ⟨⟨c, dct, dt, sl⟩, hl, hc, n, hd⟩ := hL
  replace hc : c = .type "tuple" := hc
  replace hd : dt = .seq items n := hd
  subst hc hd
  refine callType_new F.called_enumerate (by decide) (F.typeCall_enumerate_1 _) (F.newCall_enumerate_1 _) (fun obj => F.args_object_init_2 obj _) F.entry_enumerate_new
    (meets_enum_tup l items n dct sl) ⟨hl, ?_⟩
  have hz : (s.heap.push { cls := .type "tuple_iterator", data := .fields #[.ref l, .int 0 0] }).objs.size = s.heap.objs.size + 1 := Heap.size_push ..
  show _ ∧ _
  rw [hz]
  have he : IsEnum ((s.heap.push { cls := .type "tuple_iterator", data := .fields #[.ref l, .int 0 0] }).push
      { cls := .type "enumerate", data := .fields #[.none, .bool false, .ref s.heap.objs.size, rawInt 0, .none, .none] }) (s.heap.objs.size + 1) s.heap.objs.size 0 .none := by
    have := Heap.get?_push_size (s.heap.push { cls := .type "tuple_iterator", data := .fields #[.ref l, .int 0 0] })
      (o := { cls := .type "enumerate", data := .fields #[.none, .bool false, .ref s.heap.objs.size, rawInt 0, .none, .none] }) rfl
    rw [hz] at this; exact this
  refine ⟨⟨_, he, rfl⟩, h _ he ⟨_, Heap.get?_push_of_some _ (Heap.get?_push_size _ rfl), rfl, rfl⟩ (by rw [Heap.size_push, hz]) fun b o x => Heap.get?_push_of_some _ (Heap.get?_push_of_some _ x)⟩
theorem call_enumK (k : Sk) {l : Addr} {items : Array Value} {Q : Value → Shared → Prop} (hL : IsSq s.heap k l items)
    (h : ∀ h', IsEnum h' (s.heap.objs.size + 1) s.heap.objs.size 0 .none → IsIt h' k s.heap.objs.size l 0 → h'.objs.size = s.heap.objs.size + 2 →
      (∀ b o, s.heap.get? b = some o → h'.get? b = some o) → Q (.ref (s.heap.objs.size + 1)) { s with heap := h' }) :
    wpAny (model prog w) A (call (.type "enumerate") [.ref l]) Q E s := by
  cases k with
  | L => exact call_enumerate_list hL h
  | T => exact call_enum_tup hL h
end
def ItE (K : PySem.W.Frag) (k : Sk) (a : Addr) : It :=
  ⟨fun i H => ∃ (xs : List V) (x : V), Sq2 K H k a xs ∧ xs[i]? = some x,
    fun i H v H' => ∃ T x, v = .ref T ∧ H T = none ∧ H' = upd H T (.tup [.int (i : Nat), x]) ∧ ∀ xs, Sq2 K H k a xs → xs[i]? = some x,
    fun i H => ∃ xs : List V, Sq2 K H k a xs ∧ i = xs.length⟩
theorem turn_enumM {P : Program} {w : World} {K : PySem.W.Frag} {elts : List Expr} {kk : Nat} {tpos : Pos} {k : Sk} {a : Addr} {N : Nat} (ha : a < N) :
    Turn P w K (.Tuple elts kk tpos) (ItE K k a) [N + 1, N] (N + 1) (fun i h => (∃ old, IsEnum h (N + 1) N (0 + (i : Int)) old) ∧ IsIt h k N a i) where
  mem := by simp
  obj := fun i h st c hc => by
    obtain ⟨⟨old, he⟩, h1⟩ := st
    simp only [List.mem_cons, List.not_mem_nil, or_false] at hc
    rcases hc with q | q
    all_goals subst q
    · exact ⟨_, he, fun v q => nomatch q⟩
    · exact h1.obj
  keep := fun i h h' st q => by
    obtain ⟨⟨old, he⟩, h1⟩ := st
    exact ⟨⟨old, q _ (by simp) _ he⟩, h1.kept fun o e => q _ (by simp) o e⟩
  item := by
    intro X hP hw hK hc i pins s σ H E I hf st hg
    subst hP hw hK
    obtain ⟨he, h1⟩ := st
    obtain ⟨xs, x, hqx, hx⟩ := hg
    obtain ⟨its, rv, p, _⟩ := Sq2.inv I hqx
    have hh : X.A.in1.handled = none := I.ok.hd hc
    have GG := GoesN.enumFrom (prog := X.prog) (w := X.w) (A := X.A) (elts := elts) (x1 := kk) (pos := tpos) 0 (drawsK k hh N a (Nat.ne_of_lt ha) its.toArray) (N + 1) (Nat.succ_ne_self N)
      (by simp only [List.mem_cons, List.not_mem_nil, or_false, not_or]; exact ⟨Nat.succ_ne_self N, fun z => absurd ha (by rw [← z]; exact Nat.not_lt.mpr (Nat.le_succ N))⟩) (by simp)
    have li : i < its.length := by rw [← rv.length]; exact (List.getElem?_eq_some_iff.mp hx).1
    refine GG.goes i s _ E (by simpa using li) ⟨he, h1, p⟩ fun v h' tk hY st' hk _ => ?_
    obtain ⟨T, t, u, rfl, hT, hu, hIs⟩ := hY
    obtain ⟨w1, e1, ru⟩ := rv.get hx
    have eu : u = w1 := by
      have : its[i]? = some u := by simpa using hu
      rw [e1] at this; exact (Option.some.inj this).symm
    subst eu
    have e0 : (0 : Int) + (i : Int) = ((i : Nat) : Int) := by omega
    rw [e0] at hIs
    have new : ObjOk X.prog X.w (upd H T (.tup [.int (i : Nat), x])) h' T (.tup [.int (i : Nat), x]) := ⟨by show 2 ≤ sizeLine; decide, [.int (i : Nat) t, u], .cons ⟨_, rfl⟩ (.cons ru .nil), hIs⟩
    obtain ⟨z', h1', _⟩ := st'
    have fresh : ∀ c, c ∈ [N + 1, N] → c ≠ T := fun c hcm e => by
      have hlt : c < s.heap.objs.size := by
        simp only [List.mem_cons, List.not_mem_nil, or_false] at hcm
        obtain ⟨old, he⟩ := he
        rcases hcm with q | q
        all_goals subst q
        · exact Heap.lt_size he
        · obtain ⟨o, e, _⟩ := h1.obj; exact Heap.lt_size e
      rw [e] at hlt
      exact absurd (Nat.lt_of_lt_of_le hlt hT) (Nat.lt_irrefl _)
    exact ⟨.ref T, upd H T (.tup [.int (i : Nat), x]), I.turnedNew (t' := tk) (ch := [N + 1, N]) (fun c o hb e => hk c o hb e) hf hT new, rfl,
      ⟨T, x, rfl, I.hok.fresh hT, rfl, fun l hl => by rw [Sq2.inj I hl hqx]; exact hx⟩, ⟨z', h1'⟩, fun c hcm => by rw [upd_ne (fresh c hcm)]; exact (hf c hcm).1⟩
  done := by
    intro X hP hw hK hc i pins s σ H E I hf st hg
    subst hP hw hK
    obtain ⟨he, h1⟩ := st
    obtain ⟨xs, hqx, hend⟩ := hg
    obtain ⟨its, rv, p, _⟩ := Sq2.inv I hqx
    have hh : X.A.in1.handled = none := I.ok.hd hc
    have GG := GoesN.enumFrom (prog := X.prog) (w := X.w) (A := X.A) (elts := elts) (x1 := kk) (pos := tpos) 0 (drawsK k hh N a (Nat.ne_of_lt ha) its.toArray) (N + 1) (Nat.succ_ne_self N)
      (by simp only [List.mem_cons, List.not_mem_nil, or_false, not_or]; exact ⟨Nat.succ_ne_self N, fun z => absurd ha (by rw [← z]; exact Nat.not_lt.mpr (Nat.le_succ N))⟩) (by simp)
    have ei : i = its.toArray.size := by simp only [List.size_toArray, ← rv.length]; exact hend
    exact GG.stops s (fun s1 => Inv X pins σ H s1) E (by rw [← ei]; exact ⟨he, h1, p⟩) fun h' tk hk _ => I.turnedL (t' := tk) (ch := [N + 1, N]) (fun c o hb e => hk c o hb e) hf
  self := fun A i s Q E st h => let ⟨⟨_, he⟩, _⟩ := st; wpAny_pyIter_enum he h
section
variable {g : Gd} {X : Cx} {W : WX} {n : Nat} {pos tpos : Pos} {e : Expr} {elts : List Expr} {kk : Nat}
def iEnumM (K : PySem.W.Frag) (ta : TA) : TI := fun σ H R => ta σ H fun vs H1 => ∃ a k xs, vs = [.ref a] ∧ Sq2 K H1 k a xs ∧ R (ItE K k a) H1
theorem pi_enumM {ta : TA} {p : Pos} (hg : Gl X "enumerate") (hm : X.mg "enumerate" = none) (ha : PA X [e] ta) (hs : starEach [e] X.env = [(false, eval e X.env)]) :
    PI X (.Tuple elts kk tpos) (.Call (.Name "enumerate" p) [e] [] pos) (iEnumM X.K ta) := by
  constructor
  intro pins s σ H R I h
  refine Call_ (ld_blt I hg hm boot_enumerate (PyProof.Rows.callWith_type1 (thn (ha.run pos pins s σ H _ I h) ?_) hs rfl))
  rintro us s1 ⟨vs, H1, I1, r1, a, k, xs, rfl, hqx, q⟩
  rw [Vals.ref1 r1]
  obtain ⟨its, rv, p1, l1⟩ := Sq2.inv I1 hqx
  refine call_enumK k p1 fun h' he hit hsz hk => wpAny_pyIter_enum he ?_
  refine ⟨_, [s1.heap.objs.size + 1, s1.heap.objs.size], _, _, H1, rfl, I1.kept (t' := s1.toks) hk, turn_enumM l1, ⟨⟨.none, he⟩, hit⟩, fun c hc => ?_, q⟩
  have hle : s1.heap.objs.size ≤ c := by
    simp only [List.mem_cons, List.not_mem_nil, or_false] at hc
    rcases hc with z | z <;> subst z <;> first | exact Nat.le_add_right _ _ | exact Nat.le_refl _
  exact I1.fpOk hle (I1.hok.fresh hle)
theorem rit_enum {ρ : List Addr} {H : Hp} {hp : Hs} {it : It'} {k : Sk} {a : Addr} (R : Rh g ρ H hp) (c : Cmp g ρ H it k a) : Rit g ρ H true (.enum it) (ItE g.K k a) := by
  intro i ρ1 H1 hp1 o S1 R1 hq
  unfold nxt at hq
  by_cases hl : i ≤ itLen it hp1
  · rw [if_pos hl] at hq
    cases q1 : nxt it i hp1 with
    | none => rw [q1] at hq; cases hq
    | some o1 =>
      obtain ⟨ws, sq, ln, n1, s1⟩ := c.at R S1 R1 q1
      rw [q1] at hq
      cases o1 with
      | none =>
        cases hq
        have := n1 rfl
        rw [List.getElem?_eq_none_iff] at this
        exact ⟨ws, sq, by omega⟩
      | some v =>
        cases hq
        obtain ⟨x, ex, rx⟩ := s1 v rfl
        refine ⟨⟨ws, x, sq, ex⟩, fun z H2 hy => ?_⟩
        obtain ⟨T, x', rfl, hT, rfl, f1⟩ := hy
        have e1 := f1 ws sq
        rw [ex] at e1; cases e1
        obtain ⟨S2, R2⟩ := R1.laid (u := .tup [.int (i : Nat), x]) hT
        exact ⟨S2, R2, .inr ⟨[.int (i : Nat), v], [.int (i : Nat), x], T, rfl, rfl, .inl (.inl upd_same), Rvs.step R1 S2 _ _ (Rvs.cons mk_int (Rvs.one rx))⟩⟩
  · rw [if_neg hl] at hq; cases hq
def dEnum (f : Da) : Di := fun s h => (f s h).bind fun vs h1 => match vs with
  | [x] => if noStr x then (itOf x h1).bind fun a h2 => .ok (.enum a) h2 else .no
  | _ => .no
theorem i_enum {f : Da} {p : Pos} (hm : X.mg "enumerate" = none) (ha : SA g X W n [e] f) (hg : Gl X "enumerate" := by rfl) (hs : starEach [e] X.env = [(false, eval e X.env)] := by rfl) :
    SI g X W n true (.Tuple elts kk tpos) (.Call (.Name "enumerate" p) [e] [] pos) (dEnum f) := by
  intro C
  refine (pi_enumM hg hm (ha C) hs).imp ?_
  rintro σ H Rr ⟨ρ, s, hp, R, L, h⟩
  rw [C.K]
  refine iBA h R L fun v h1 ρ1 H1 x e1 S1 R1 r1 L1 p1 => ?_
  split at p1
  · rename_i v1
    by_cases ns : noStr v1 = true
    · rw [if_pos ns] at p1
      have n1 : ∀ z, v1 ≠ .str z := fun z q => by rw [q] at ns; exact nomatch ns
      obtain ⟨x1, rfl, q1⟩ := r1.inv1
      cases t1 : itOf v1 h1 with
      | no => rw [t1] at p1; exact p1.elim
      | ex c h2 => exfalso; cases v1 <;> simp only [itOf] at t1 <;> first | cases t1 | (split at t1 <;> cases t1)
      | ok it h2 =>
        rw [t1] at p1
        simp only [Rs.bind] at p1
        obtain ⟨rfl, k, a, xs, rfl, c, sq⟩ := cmp_of R1 q1 t1 n1
        exact ⟨a, k, xs, rfl, sq, p1 ρ1 H1 _ (.refl _ _) R1 (rit_enum R1 c)⟩
    · rw [if_neg ns] at p1; exact p1.elim
  · exact p1.elim
/-! ### f() -/
def dCall0 (F : Fn) : De := fun _ h => callD F [] h
theorem e_callF0 {F : Fn} {x : Str} {p : Pos} (O : Okf X.prog X.w g X.mg X.base n x [] 0 F) (hK : X.K = g.K) (hg : Gl X x := by rfl) (hdb : (x == ("__debug__" : Str)) = false := by decide) :
    SE g X W n (.Call (.Name x p) [] [] pos) (dCall0 F) := by
  obtain ⟨h1, h2, fd, _, h3, h4⟩ := O
  rw [← hK] at h1 h2 h3 h4
  intro C
  refine ⟨fun pins s σ H Q I h => ?_⟩
  obtain ⟨ρ, s', hp, R, L, h⟩ := h
  refine wpAny_Call_Name_kw (ld_glob I hg h1 ?_ hdb)
  exact PySem.W.callWith_K0 I.kIn h2 (run_fnS (E := WE W) (us := []) h3 C.room h4 (passAt C.tk σ) I .nil (sp_call R Rvs.nil rfl h))
end
end Wr

set_option Elab.async false
set_option linter.all false
set_option maxRecDepth 100000
set_option maxHeartbeats 4000000
set_option autoImplicit false
namespace Wr
open PySem PySem.Spec PyProof.Rows L2
/-! ### sum, min, max of a tuple of ints; abs -/
section
variable {prog : Program} {w : World} {A : Around} {E : Value → Shared → Prop} {s : Shared} {l : Addr} {its : List Value} {ns : List Int} {Q : Value → Shared → Prop}
theorem sum_tup (hh : A.handled = none) (hl : s.heap.IsTuple l its.toArray) (hi : IntsAre its ns)
    (h : ∀ h' tk t', (∀ b o, s.heap.get? b = some o → h'.get? b = some o) → Q (.int ns.sum t') { s with heap := h', toks := tk }) : wpAny (model prog w) A (call (.builtin "sum") [.ref l]) Q E s := by
  obtain ⟨xs, e⟩ := hi.allInts.items
  have hn : numsOf (intItems xs).toList = ns := by rw [← e]; exact hi.numsOf
  rw [nums_intItems] at hn
  rw [e] at hl
  refine PySem.W.ktm_sumG hh hl fun h' tk t' hk => ?_
  have := h h' tk t' hk
  rw [preSum_eq, List.take_of_length_le (by simp), hn]; exact this
end
def rSumT (K : PySem.W.Frag) : List V → Hp → VK → Prop := fun vs H Q => ∃ (a : Addr) (ns : List Int), vs = [V.ref a] ∧ SqT K H a (ns.map V.int) ∧ Q (.int ns.sum) H
theorem cr_sumT {X : Cx} (hc : X.calm = true) : CallR X (.builtin "sum") (rSumT X.K) := by
  intro pins s σ H vs us Q I r h
  obtain ⟨a, ns, rfl, hs, q⟩ := h
  obtain ⟨its, rv, hl, _⟩ := I.tuple hs
  rw [Vals.ref1 r]
  exact sum_tup (I.ok.hd hc) hl rv.ints fun h' tk t' hk => ⟨.int _, H, I.kept hk, ⟨_, rfl⟩, q⟩
section
variable {g : Gd}
def kSumA : K1 := fun xs h => match xs with
  | [.tup ys] => (intsV ys).map fun ns => (.int ns.sum, h)
  | _ => kSum xs h
theorem c_sumA : CallC g (.builtin "sum") (fun xs H Q => rSum g.K xs H Q ∨ rSumT g.K xs H Q) := fun X hK hc _ => hK ▸ CallR.or (cr_sum hc) (cr_sumT hc)
theorem p_sumA : PC1 g (fun xs H Q => rSum g.K xs H Q ∨ rSumT g.K xs H Q) kSumA := by
  intro ρ H hp xs vs v h' Q R r e q
  unfold kSumA at e
  split at e
  · obtain ⟨ns, h2, e⟩ := Option.map_eq_some_iff.mp e
    cases e
    obtain ⟨w, rfl, rw'⟩ := r.inv1
    simp only [Rv] at rw'
    obtain ⟨a, us, rfl, ht, rv⟩ := rw'
    have := intsV_rv rv h2
    subst this
    exact .inr ⟨a, ns, rfl, ht.sqT, q ρ H _ (.refl _ _) R mk_int⟩
  · exact .inl (p_sum ρ H hp xs vs v h' Q R r e q)
def kAbs : K1 := fun xs h => match xs with
  | [.int i] => some (.int (if i < 0 then -i else i), h)
  | _ => none
abbrev rAbs : List V → Hp → VK → Prop := fun xs H Q => ∃ i, xs = [.int i] ∧ Q (.int (if i < 0 then -i else i)) H
theorem c_abs : CallC g (.builtin "abs") rAbs := fun X hK _ _ => call_abs
theorem p_abs : PC1 g rAbs kAbs := by
  intro ρ H hp xs vs v h' Q R r e q
  unfold kAbs at e
  split at e
  · cases e
    obtain ⟨w, rfl, rw'⟩ := r.inv1
    exact ⟨_, by rw [rv_int rw'], q ρ H _ (.refl _ _) R mk_int⟩
  · cases e
end
/-! ### xs.extend(t), t a tuple -/

end Wr

set_option Elab.async false
set_option linter.all false
set_option maxRecDepth 100000
set_option maxHeartbeats 4000000
set_option autoImplicit false
namespace Wr
open PySem PySem.Spec PyProof.Rows L2
/-! ### x[i], y[j] = v, w of lists -/
def dPut2 (fo fi fo2 fi2 : De) (fv : Da) : Ds := fun s h => (fv s h).bindS s fun vs h1 => match vs with
  | [v, w] => (fo s h1).bindS s fun o h2 => (fi s h2).bindS s fun i h3 => match kPutL o i v h3 with
    | some h4 => (fo2 s h4).bindS s fun o2 h5 => (fi2 s h5).bindS s fun i2 h6 => match kPutL o2 i2 w h6 with
      | some h7 => .nx s h7
      | none => .no
    | none => .no
  | _ => .no
section
variable {g : Gd} {X : Cx} {W : WX} {n : Nat} {pos : Pos}
theorem putL_ok {ρ : List Addr} {H : Hp} {hp hp' : Hs} {o i v : Va} {y z x : V} (R : Rh g ρ H hp) (ro : Rv g ρ H o y) (ri : Rv g ρ H i z) (rv : Rv g ρ H v x) (e : kPutL o i v hp = some hp') :
    ∃ a vs k j, y = .ref a ∧ z = .int k ∧ H a = some (.lst vs) ∧ ixN vs.length k = some j ∧ Sp1 ρ H ρ (upd H a (.lst (vs.set j x))) ∧ Rh g ρ (upd H a (.lst (vs.set j x))) hp' := by
  unfold kPutL at e
  split at e
  · rename_i r k
    split at e
    · rename_i xs hx
      obtain ⟨j, hj, rfl⟩ := Option.map_eq_some_iff.mp e
      simp only [Rv] at ro
      obtain ⟨a, ha, rfl⟩ := ro
      obtain ⟨vs, e2, rvs⟩ := R.obj r a _ ha hx
      obtain ⟨S4, R4⟩ := R.put (u := .lst (vs.set j x)) (o := .lst (xs.set j v)) ha (fun _ _ z => by rw [e2] at z; cases z) fun S => ⟨_, upd_same, Rvs.step R S _ _ (rvs.set j rv)⟩
      exact ⟨a, vs, k, j, rfl, rv_int ri, e2, by rw [← rvs.length]; exact hj, S4, R4⟩
    · cases e
  · cases e
theorem s_put2 {o i o2 i2 a b : Expr} {p1 p2 pt pt2 : Pos} {kt k2 : Nat} {fo fi fo2 fi2 : De} {fv : Da} (ho : SE g X W n o fo) (hi : SE g X W n i fi) (ho2 : SE g X W n o2 fo2) (hi2 : SE g X W n i2 fi2) (hv : SA g X W n [a, b] fv)
    (ha1 : ∀ v, assign (.Subscript o i p1) X.env v = (do
      let ov ← holding [v] (eval o X.env)
      let iv ← holding [v, ov] (eval i X.env)
      standAt p1
      holding [v, ov, iv] (setItem ov iv v)
      release [v, ov, iv] []) := by intro _; rfl)
    (ha2 : ∀ v, assign (.Subscript o2 i2 p2) X.env v = (do
      let ov ← holding [v] (eval o2 X.env)
      let iv ← holding [v, ov] (eval i2 X.env)
      standAt p2
      holding [v, ov, iv] (setItem ov iv v)
      release [v, ov, iv] []) := by intro _; rfl)
    (hs : swapsWithSole [.Tuple [.Subscript o i p1, .Subscript o2 i2 p2] kt pt] (.Tuple [a, b] k2 pt2) pos.line X.env = pure false := by rfl)
    (hw : swappedStores [.Tuple [.Subscript o i p1, .Subscript o2 i2 p2] kt pt] (.Tuple [a, b] k2 pt2) X.env = pure none := by rfl)
    (h1 : (assignEach [.Tuple [.Subscript o i p1, .Subscript o2 i2 p2] kt pt] X.env).map (·.2) = [assign (.Tuple [.Subscript o i p1, .Subscript o2 i2 p2] kt pt) X.env] := by rfl) :
    SS g X W n (.Assign [.Tuple [.Subscript o i p1, .Subscript o2 i2 p2] kt pt] (.Tuple [a, b] k2 pt2) pos) (dPut2 fo fi fo2 fi2 fv) := by
  intro C
  refine (ps_asg (pos := pos) (pe_tupN (hv C)) (pg_tup C.calm (pgs_cons (pg_sub (ho C) (hi C) set_list ha1) (pgs_cons (pg_sub (ho2 C) (hi2 C) set_list ha2) pgs_nil))) hs hw h1).imp ?_
  rintro D σ H ⟨ρ, s, hp, R, L, h⟩
  refine aBS h R L fun vs h1 ρ1 H1 xs S1 R1 r1 L1 p1 => ?_
  split at p1
  · rename_i v w
    obtain ⟨x, y, rfl, rx, ry⟩ := r1.inv2
    refine ⟨by show 2 ≤ sizeLine; decide, fun p us hn => ?_⟩
    obtain ⟨S2, R2, r2⟩ := new_tup (us := us) R1 hn (Rvs.cons rx (Rvs.one ry))
    refine ⟨p, [x, y], rfl, .inl (.inr ⟨_, upd_same⟩), rfl, x, [y], rfl, ?_⟩
    have rx2 := Rv.step R1 S2 _ _ rx
    have ry2 := Rv.step R1 S2 _ _ ry
    have L2' := L1.step R1 S2
    refine bS (PoS.at p1 S2) R2 L2' fun o h2 ρ3 H3 yo S3 R3 r3 L3 p3 => ?_
    refine bS p3 R3 L3 fun i h3 ρ4 H4 yi S4 R4 r4 L4 p4 => ?_
    split at p4
    · rename_i h4 hk
      obtain ⟨a1, vs1, k, j, rfl, rfl, e1, e2, S5, R5⟩ := putL_ok R4 (Rv.step R3 S4 _ _ r3) r4 (Rv.step R2 (S3.trans S4) _ _ rx2) hk
      refine ⟨a1, vs1, k, j, rfl, rfl, e1, e2, y, [], rfl, ?_⟩
      refine bS (PoS.at p4 S5) R5 (L4.step R4 S5) fun o2 h5 ρ6 H6 yo2 S6 R6 r6 L6 p6 => ?_
      refine bS p6 R6 L6 fun i2 h6 ρ7 H7 yi2 S7 R7 r7 L7 p7 => ?_
      split at p7
      · rename_i h7 hk2
        obtain ⟨a2, vs2, k2, j2, rfl, rfl, e3, e4, S8, R8⟩ := putL_ok R7 (Rv.step R6 S7 _ _ r6) r7 (Rv.step R2 (((S3.trans S4).trans S5).trans (S6.trans S7)) _ _ ry2) hk2
        exact ⟨a2, vs2, k2, j2, rfl, rfl, e3, e4, rfl, p7 ρ7 _ σ S8 R8 (L7.step R7 S8)⟩
      · exact p7.elim
    · exact p4.elim
  · exact p1.elim
end
end Wr

set_option Elab.async false
set_option linter.all false
set_option maxRecDepth 100000
set_option maxHeartbeats 4000000
set_option autoImplicit false
/-! Wr: dicts whose keys are tuples of ints. -/
namespace Wr
open PySem PySem.Spec PyProof.Rows L2
section
variable {X : Cx} {pins : List (Addr × Obj)} {σ : L2.St} {H : Hp} {s : Shared}
theorem SqN.key (I : Inv X pins σ H s) {b : Addr} {ks : List Key} (h : SqN X.K H b (ks.map kV)) : (tupleKind (mixKind X.prog X.w)).is s.heap ks b := by
  obtain ⟨its, r, ⟨o, h1, h2, n, h3⟩, _⟩ := I.tuple h.sqT
  exact ⟨o, its.toArray, n, h1, h2, h3, by simpa using items_are r⟩
theorem ent_any (P P' : Program) (w w' : World) (is : List Int) (p : Addr × Value) : entryOfKey (tupleKind (mixKind P w)) (is.map Sum.inl, p) = entryOfKey (tupleKind (mixKind P' w')) (is.map Sum.inl, p) := by
  have e : ∀ (P : Program) (w : World), (is.map (Sum.inl : Int → Key)).map (mixKind P w).hash = is.map hashInt := fun P w => by
    rw [List.map_map]; rfl
  have e2 : tupleKeyHash (mixKind P w) (is.map Sum.inl) = tupleKeyHash (mixKind P' w') (is.map Sum.inl) := by
    unfold tupleKeyHash
    rw [e, e]
  show (⟨tupleKeyHash (mixKind P w) (is.map Sum.inl), .ref p.1, p.2⟩ : DictEntry) = ⟨tupleKeyHash (mixKind P' w') (is.map Sum.inl), .ref p.1, p.2⟩
  rw [e2]
theorem ents_any {P P' : Program} {w w' : World} {xs : List (List Key × Addr × Value)} (h : ∀ q ∈ xs, ∃ is : List Int, q.1 = is.map Sum.inl) : xs.map (entryOfKey (tupleKind (mixKind P w))) = xs.map (entryOfKey (tupleKind (mixKind P' w'))) := by
  refine List.map_congr_left fun q hq => ?_
  obtain ⟨k, p⟩ := q
  obtain ⟨is, e⟩ := h _ hq
  simp only at e
  subst e
  exact ent_any P P' w w' is p
theorem KTn.val {K : PySem.W.Frag} {kvs : List (List Key × V)} {xs : List (List Key × Addr × Value)} (r : KTn K H kvs xs) (k : List Key) : RelO (valV kvs k) ((atKey xs k).map (·.2)) := by
  induction r with
  | nil => exact True.intro
  | @cons p q ps qs h t ih =>
    obtain ⟨h1, _, h2⟩ := h
    by_cases e : p.1 = k
    · have b : atKey (q :: qs) k = some q.2 := by simp [atKey, List.find?_cons, h1.symm.trans e]
      rw [valV_pos e, b]; exact h2
    · have b : atKey (q :: qs) k = atKey qs k := by simp [atKey, List.find?_cons, show ¬ q.1 = k from fun z => e (h1.trans z)]
      rw [valV_neg e, b]; exact ih
theorem KTn.repl {K : PySem.W.Frag} {kvs : List (List Key × V)} {xs : List (List Key × Addr × Value)} (r : KTn K H kvs xs) (k : List Key) {y : V} {u : Value} (ry : RelV y u) :
    KTn K H (kvs.map fun kv => if kv.1 = k then (kv.1, y) else kv) (xs.map (putAt k u)) := by
  induction r with
  | nil => exact .nil
  | @cons p q ps qs h t ih =>
    rw [List.map_cons, List.map_cons]
    refine .cons ?_ ih
    obtain ⟨h1, h2, h3⟩ := h
    unfold putAt
    by_cases e : p.1 = k
    · rw [if_pos e, if_pos (h1.symm.trans e)]; exact ⟨h1, h2, ry⟩
    · rw [if_neg e, if_neg (fun z => e (h1.trans z))]; exact ⟨h1, h2, h3⟩
theorem KTn.put {K : PySem.W.Frag} {kvs : List (List Key × V)} {xs : List (List Key × Addr × Value)} (r : KTn K H kvs xs) (k : List Key) {b : Addr} {y : V} {u : Value} (hb : SqN K H b (k.map kV)) (ry : RelV y u) :
    KTn K H (putK kvs k y) (storedH xs k b u) := by
  have e : (kvs.any fun kv => decide (kv.1 = k)) = (atKey xs k).isSome := by
    rw [valV_any, (KTn.val r k).isSome_eq, Option.isSome_map]
  unfold putK storedH
  rw [e]
  by_cases q : (atKey xs k).isSome = true
  · rw [if_pos q, if_pos q]; exact KTn.repl r k ry
  · rw [if_neg q, if_neg q]; exact Paired.snoc r ⟨rfl, hb, ry⟩
theorem stored_ints {xs : List (List Key × Addr × Value)} (h : ∀ q ∈ xs, ∃ is : List Int, q.1 = is.map Sum.inl) (is : List Int) (b : Addr) (u : Value) : ∀ q ∈ storedH xs (is.map Sum.inl) b u, ∃ js : List Int, q.1 = js.map Sum.inl := by
  intro q hq
  unfold storedH at hq
  split at hq
  · obtain ⟨p, hp, rfl⟩ := List.mem_map.mp hq
    unfold putAt
    split
    · exact h p hp
    · exact h p hp
  · rcases List.mem_append.mp hq with hq | hq
    · exact h q hq
    · rw [List.mem_singleton.mp hq]; exact ⟨is, rfl⟩
theorem DtX.dict (I : Inv X pins σ H s) {a : Addr} {xs : List (List Key × Addr × Value)} {ws : List (List Key × V)} (h1 : H a = some (DTo a xs)) (h2 : KTn X.K H ws xs) (h3 : (xs.map (·.1)).Nodup) : s.heap.DictOfH (tupleKind (mixKind X.prog X.w)) a xs := by
  obtain ⟨⟨o, es, ep, e1, e2, e3, e4⟩, _⟩ := (show ObjOk X.prog X.w H s.heap a (DTo a xs) from I.hok a _ h1)
  refine ⟨o, es, ep, e1, e2, e3, e4 _ _, ?_, h3⟩
  have all : ∀ {l : List (List Key × V)} {m : List (List Key × Addr × Value)}, KTn X.K H l m → ∀ x ∈ m, (tupleKind (mixKind X.prog X.w)).is s.heap x.1 x.2.1 := by
    intro l m q
    induction q with
    | nil => intro x hx; exact nomatch hx
    | @cons p q ps qs hq t ih =>
      intro x hx
      rcases List.mem_cons.mp hx with e | hx
      · subst e
        exact SqN.key I (by rw [← hq.1]; exact hq.2.1)
      · exact ih x hx
  exact all h2
/-! ### d[k] -/
def rDgX (K : PySem.W.Frag) : R2 := fun x y H Q => ∃ a ws k b v, x = .ref a ∧ DtX K H a ws ∧ y = .ref b ∧ SqN K H b (k.map kV) ∧ valV ws k = some v ∧ Q v H
theorem pe_dgetX {o i : Expr} {td ty : TE} {pos : Pos} (hu : X.A.units + 1 < cLine) (ho : PE X o td) (hi : PE X i ty) (hs : NoSl i) : PE X (.Subscript o i pos) (tOp (rDgX X.K) td ty) := by
  refine ⟨fun pins s σ H Q I h => ?_⟩
  refine subD_of PySem.F.slot_dict_getitem.lookup hs (thn (ho.run pins s σ H _ I h) fun u s1 ⟨x, H1, I1, rx, q1⟩ => thn (hi.run pins s1 σ H1 _ I1 q1) fun iv s2 ⟨y, H2, I2, ry, a, ws, k, b, v, ex, hd, ey, hb, hv, q2⟩ => ?_)
  subst ex ey
  obtain rfl : u = Value.ref a := rx
  obtain rfl : iv = Value.ref b := ry
  obtain ⟨h0, xs, h1, h2, h3, h4⟩ := hd
  have dd := DtX.dict I2 h1 h2 h3
  obtain ⟨w', hw, rw'⟩ := RelO.some_of (v := v) (o := (atKey xs k).map (·.2)) (by rw [← hv]; exact KTn.val h2 k)
  obtain ⟨p, hp, hp2⟩ := Option.map_eq_some_iff.mp hw
  refine ⟨dd.typeIs, wpAny_getItem_heap (tupleKind_room_in1 hu) (SqN.key I2 hb) dd hp ?_⟩
  rw [hp2]
  exact ⟨v, H2, I2.tok _, rw', q2⟩
/-! ### d[k] = v -/
def sDPutX (K : PySem.W.Frag) (td ty tv : TE) : TS := fun D σ H => tv σ H fun v H1 => td σ H1 fun x H2 => ty σ H2 fun y H3 => ∃ (a : Addr) (ws : List (List Key × V)) (is : List Int) (b : Addr), x = .ref a ∧ y = .ref b ∧ (DtX K H3 a ws ∨ (H3 a = some (.dK []) ∧ ws = [])) ∧
  SqN K H3 b ((is.map Sum.inl : List Key).map kV) ∧ ws.length < sizeLine ∧ ∀ u, DtX K (upd H3 a u) a (putK ws (is.map Sum.inl) v) → D.nx σ (upd H3 a u)
theorem sqN_upd {K : PySem.W.Frag} {D : Addr} {o : HO} (h : ∀ x y, H D ≠ some (.frz x y)) {b : Addr} {vs : List V} (q : SqN K H b vs) : SqN K (upd H D o) b vs := by
  rcases q with ⟨u, q, d⟩ | q
  · exact .inl ⟨u, by rw [upd_ne (show b ≠ D from fun z => h u (.tup vs) (by rw [← z]; exact q))]; exact q, d⟩
  · exact .inr q
theorem ps_dputX {o i e : Expr} {td ty tv : TE} {pos pos' : Pos} (hu : X.A.units + 1 < cLine) (ho : PE X o td) (hi : PE X i ty) (hv : PE X e tv) (hs : swapsWith e (some (.Subscript o i pos')) pos.line X.env = pure false) :
    PS X (.Assign [.Subscript o i pos'] e pos) (sDPutX X.K td ty tv) := by
  refine ⟨fun pins s σ H D I h => ?_⟩
  refine wpAny_Assign_Subscript (thn (hv.run pins s σ H _ I h) fun r s1 ⟨v, H1, I1, rv, q1⟩ => thn (ho.run pins s1 σ H1 _ I1 q1) fun u s2 ⟨x, H2, I2, rx, q2⟩ => thn (hi.run pins s2 σ H2 _ I2 q2) fun iv s3 ⟨y, H3, I3, ry, a, ws, is, b, ex, ey, hd, hb, hl, q3⟩ => ?_) hs
  subst ex ey
  obtain rfl : u = Value.ref a := rx
  obtain rfl : iv = Value.ref b := ry
  obtain ⟨xs, h0, hm, hf, h2, h3, h4, dd⟩ : ∃ xs, (a == sysModules) = false ∧ Mut (H3 a) ∧ (∀ x y, H3 a ≠ some (.frz x y)) ∧ KTn X.K H3 ws xs ∧ (xs.map (·.1)).Nodup ∧ (∀ q ∈ xs, ∃ is : List Int, q.1 = is.map Sum.inl) ∧ s3.heap.DictOfH (tupleKind (mixKind X.prog X.w)) a xs := by
    rcases hd with ⟨h0, xs, h1, h2, h3, h4⟩ | ⟨h1, rfl⟩
    · exact ⟨xs, h0, (by rw [h1]; exact True.intro), (fun _ _ z => by rw [h1] at z; cases z), h2, h3, h4, DtX.dict I3 h1 h2 h3⟩
    · obtain ⟨_, h0, vs, r, o, es, ep, e1, e2, e3, e4, e5⟩ := dk_of I3.hok h1
      cases r
      refine ⟨[], h0, (by rw [h1]; exact True.intro), (fun _ _ z => by rw [h1] at z; cases z), .nil, List.nodup_nil, fun q hq => (List.not_mem_nil hq).elim, o, es, ep, e1, e2, e3, ?_, fun q hq => (List.not_mem_nil hq).elim, List.nodup_nil⟩
      cases h : es.toList with
      | nil => rfl
      | cons x y => have q := e5.1; rw [h] at q; exact nomatch q
  have hz : xs.length ≤ sizeLine := by rw [← Paired.length h2]; exact Nat.le_of_lt hl
  refine wpAny_setItem_heap (hsz := hz) (tupleKind_room_in1 hu) (SqN.key I3 hb) dd fun h' dd' hsame => ?_
  obtain ⟨q, es, ep, hq, g2, g3, g4, _, g5⟩ := dd'
  have hi4 := stored_ints h4 is b r
  have ob : ObjOk X.prog X.w (upd H3 a (DTo a (storedH xs (is.map Sum.inl) b r))) h' a (DTo a (storedH xs (is.map Sum.inl) b r)) := by
    refine ⟨⟨q, es, ep, hq, g2, g3, fun P w => g4.trans (ents_any hi4)⟩, ⟨q, hq⟩, ?_⟩
    rintro k1 k2 ⟨o, es, ep, e1, e2⟩ st
    exact ⟨o, es, ep, st _ e1, e2⟩
  exact ⟨σ, _, d_write I3 hm hsame ⟨q, hq⟩ ob, q3 _ ⟨h0, _, upd_same, Paired.mapP (KTn.put h2 (is.map Sum.inl) hb rv) fun _ _ z => ⟨z.1, sqN_upd hf z.2.1, z.2.2⟩, g5, hi4⟩⟩
end
/-! ### the denotations -/
def keyT (y : Va) : Option (List Int) := match y with
  | .tup ys => intsV ys
  | _ => none
def inls (is : List Int) : List Key := is.map Sum.inl
theorem inls_kV (is : List Int) : (inls is).map kV = is.map V.int := by
  unfold inls; rw [List.map_map]; rfl
theorem keyT_rv {g : Gd} {ρ : List Addr} {H : Hp} {y : Va} {v : V} {is : List Int} (r : Rv g ρ H y v) (e : keyT y = some is) : ∃ b, v = .ref b ∧ SqN g.K H b ((inls is).map kV) := by
  unfold keyT at e
  split at e
  · simp only [Rv] at r
    obtain ⟨a, vs, rfl, hs, rv⟩ := r
    exact ⟨a, rfl, by rw [inls_kV, ← intsV_rv rv e]; exact hs⟩
  · cases e
def kDgX : K2 := fun x y h => match x with
  | .ref r => match h[r]? with
    | some (.dT kvs) => (keyT y).bind fun k => (gK kvs (inls k)).map fun v => (v, h)
    | _ => none
  | _ => none
section
variable {g : Gd} {X : Cx} {W : WX} {n : Nat} {pos : Pos}
theorem p_dgX : P2 g (rDgX g.K) kDgX := by
  intro ρ H hp x y vx vy v h' Q R rx ry e q
  unfold kDgX at e
  split at e
  · rename_i r
    simp only [Rv] at rx
    obtain ⟨a, ha, rfl⟩ := rx
    split at e
    · rename_i kvs hx
      obtain ⟨k, hk, e⟩ := Option.bind_eq_some_iff.mp e
      obtain ⟨u, hu, e⟩ := Option.map_eq_some_iff.mp e
      cases e
      obtain ⟨ws, e2, rk⟩ := R.obj r a _ ha hx
      obtain ⟨z, hz, rz⟩ := rk.get hu
      obtain ⟨b, rfl, hb⟩ := keyT_rv ry hk
      exact ⟨a, ws, _, b, z, rfl, e2, rfl, hb, hz, q ρ H _ (.refl _ _) R rz⟩
    · cases e
  · cases e
theorem e_dgX {a b : Expr} {fa fb : De} (ha : SE g X W n a fa) (hb : SE g X W n b fb) (hs : PlainIx b := by exact fun _ _ => rfl) : SE g X W n (.Subscript a b pos) (dOp kDgX fa fb) := by
  intro C
  have hK := C.K
  have h := pe_dgetX (pos := pos) (by have := C.units; omega) (ha C) (hb C) hs
  rw [hK] at h
  exact h.imp fun σ H Q w => op_imp p_dgX w
def kPutX (o i v : Va) (h : Hs) : Option Hs := match o with
  | .ref r => match h[r]? with
    | some (.dT kvs) => if decide (kvs.length < 1000) then (keyT i).map fun k => h.set r (.dT (pK kvs (inls k) v)) else none
    | some (.dK []) => (keyT i).map fun k => h.set r (.dT [(inls k, v)])
    | _ => none
  | _ => none
theorem s_putX {o i e : Expr} {pos' : Pos} {fo fi fv : De} (ho : SE g X W n o fo) (hi : SE g X W n i fi) (hv : SE g X W n e fv)
    (hs : swapsWith e (some (.Subscript o i pos')) pos.line X.env = pure false := by rfl) : SS g X W n (.Assign [.Subscript o i pos'] e pos) (dPutK kPutX fo fi fv) := by
  intro C
  have hK := C.K
  have p := ps_dputX (pos := pos) (pos' := pos') (by have := C.units; omega) (ho C) (hi C) (hv C) hs
  rw [hK] at p
  refine p.imp ?_
  rintro D σ H ⟨ρ, s, hp, R, L, h⟩
  refine bS h R L fun v h1 ρ1 H1 x S1 R1 r1 L1 p1 => bS p1 R1 L1 fun o h2 ρ2 H2 y S2 R2 r2 L2 p2 => bS p2 R2 L2 fun i h3 ρ3 H3 z S3 R3 r3 L3 p3 => ?_
  split at p3
  · rename_i h4 hk
    unfold kPutX at hk
    split at hk
    · rename_i r
      have r2' := Rv.step R2 S3 _ _ r2
      have r1' := Rv.step R2 S3 _ _ (Rv.step R1 S2 _ _ r1)
      simp only [Rv] at r2'
      obtain ⟨a, ha, rfl⟩ := r2'
      split at hk
      · rename_i kvs hx
        by_cases hl : kvs.length < 1000
        · rw [if_pos (decide_eq_true hl)] at hk
          obtain ⟨k, hj, rfl⟩ := Option.map_eq_some_iff.mp hk
          obtain ⟨ws, e2, rk⟩ := R3.obj r a _ ha hx
          obtain ⟨b, rfl, hb⟩ := keyT_rv r3 hj
          refine ⟨a, ws, k, b, rfl, rfl, .inl e2, hb, by rw [← rk.length, sizeLine_eq]; omega, fun u du => ?_⟩
          obtain ⟨_, xs, e3, _⟩ := e2
          obtain ⟨S4, R4⟩ := R3.put (u := u) (o := .dT (pK kvs (inls k) v)) ha (fun _ _ z => by rw [e3] at z; cases z) fun S => ⟨_, du, Rkv.step R3 S _ _ (rk.put r1' (inls k))⟩
          exact p3 ρ3 _ σ S4 R4 (L3.step R3 S4)
        · rw [if_neg (fun z => hl (of_decide_eq_true z))] at hk; cases hk
      · rename_i hx
        obtain ⟨k, hj, rfl⟩ := Option.map_eq_some_iff.mp hk
        obtain ⟨ws, e2, rk⟩ := R3.obj r a _ ha hx
        cases rk
        obtain ⟨b, rfl, hb⟩ := keyT_rv r3 hj
        refine ⟨a, [], k, b, rfl, rfl, .inr ⟨e2, rfl⟩, hb, by rw [sizeLine_eq]; decide, fun u du => ?_⟩
        obtain ⟨S4, R4⟩ := R3.put (u := u) (o := .dT [(inls k, v)]) ha (fun _ _ z => by rw [e2] at z; cases z) fun S => ⟨_, du, ⟨_, _, rfl, Rv.step R3 S _ _ r1', rfl⟩⟩
        exact p3 ρ3 _ σ S4 R4 (L3.step R3 S4)
      · cases hk
    · cases hk
  · exact p3.elim
end
end Wr

set_option Elab.async false
set_option linter.all false
set_option maxRecDepth 100000
set_option maxHeartbeats 4000000
set_option autoImplicit false
namespace Pg
open PySem PySem.Spec PyProof.Rows L2 Wr
def c_COUPLES : Va := (.tup [(.tup [(.int 0), (.int 1)]), (.tup [(.int 0), (.int 2)]), (.tup [(.int 1), (.int 2)])])
def c_DEEPEST : Va := (.int 3)
def c_GREATEST : Va := (.int 99)
def c_MOST_CHANGES : Va := (.int 2)
def c_MOST_POINTS : Va := (.int 9)
def c_NAMES : Va := (.str (Str.mk #[97, 98, 99]))
def c_NAMES_rankings : Va := (.str (Str.mk #[97, 98, 99]))
def c_NAMES_texts : Va := (.str (Str.mk #[97, 98, 99]))
def c_PROMISES : Va := (.tup [(.str (Str.mk #[110, 97, 109, 101, 115])), (.str (Str.mk #[97, 108, 108])), (.str (Str.mk #[108, 105, 102, 116, 101, 100])), (.str (Str.mk #[106, 111, 105, 110, 101, 100])), (.str (Str.mk #[100, 117, 101, 108, 115])), (.str (Str.mk #[116, 119, 105, 99, 101])), (.str (Str.mk #[116, 117, 114, 110, 101, 100])), (.str (Str.mk #[115, 116, 97, 121, 115, 32, 97, 119, 97, 121]))])
def c_THINGS : Va := (.tup [(.int 0), (.int 1), (.int 2)])
def c_WISHES : Va := (.tup [(.tup [(.int 0), (.int 1), (.int 2)]), (.tup [(.int 0), (.int 2), (.int 1)]), (.tup [(.int 1), (.int 0), (.int 2)]), (.tup [(.int 1), (.int 2), (.int 0)]), (.tup [(.int 2), (.int 0), (.int 1)]), (.tup [(.int 2), (.int 1), (.int 0)])])
def D_is_whole : Fn := fnD 3
    (dRet (dAndV (dB kIsi (aCons (dVar 0) (aCons (dC (.ty "int")) aNil))) (dAndV (dNotV (dB kIsi (aCons (dVar 0) (aCons (dC (.ty "bool")) aNil)))) (dChain kLe kLe (dVar 1) (dVar 0) (dVar 2)))))

def D_is_book (F_is_whole : Fn) : Fn := fnD 2
    (dRet (dAndV (dB kIsi (aCons (dVar 0) (aCons (dC (.ty "tuple")) aNil))) (dAndV (dOp kEq (dB kLen (aCons (dVar 0) aNil)) (dC (.int 6))) (dB kAll (aCons (dComp [1] (dIt (dVar 0)) (.nm 1) dYes (dCall F_is_whole 3 (aCons (dVar 1) (aCons (dC (.int 0)) (aCons (dC c_GREATEST) aNil))))) aNil)))))

def D_look_book (F_is_book : Fn) : Fn := fnD 1
    (dIfS (dNot (dTest (dCall F_is_book 1 (aCons (dVar 0) aNil)))) dNo dNx)

def D_size (F_look_book : Fn) : Fn := fnD 1
    (dSeq (dExpr (dCall F_look_book 1 (aCons (dVar 0) aNil)))
    (dRet (dB kSumA (aCons (dVar 0) aNil))))

def D__law_cell (ns : List Int) : Fn := fnD 2
    (dSeq (dIfS (dTest (dOp kLt (dVar 1) (dB (kLenS ns) (aCons (dVar 0) aNil)))) (dRet (dOp (kIxS ns) (dVar 0) (dVar 1))) dNx)
    (dSeq (dIfS (dTest (dOp (kEqS ns) (dVar 0) (dLst aNil))) (dRet (dC (.int 0))) dNx)
    (dRet (dOp kAdd (dOp kMul (dOp (kIxS ns) (dVar 0) (dOp kMod (dVar 1) (dB (kLenS ns) (aCons (dVar 0) aNil)))) (dC (.int 31))) (dVar 1)))))

def D__law_pick (F__law_cell : Fn) : Fn := fnD 4
    (dSeq (dSet 3 (dOp kMod (dOp kMul (dOp kAdd (dCall F__law_cell 2 (aCons (dVar 0) (aCons (dVar 1) aNil))) (dOp kMul (dC (.int 6151)) (dOp kAdd (dVar 1) (dC (.int 1))))) (dC (.int 40692))) (dC (.int 2147483399))))
    (dRet (dOp kMod (dOp kMod (dOp kAdd (dOp kMul (dVar 3) (dVar 3)) (dOp kFdivW (dVar 3) (dC (.int 31)))) (dC (.int 2147483629))) (dVar 2))))

def D__law_wishes : Fn := fnD 0
    (dRet (dLst (aCons (dTup (aCons (dC (.int 0)) (aCons (dC (.int 1)) (aCons (dC (.int 2)) aNil)))) (aCons (dTup (aCons (dC (.int 0)) (aCons (dC (.int 2)) (aCons (dC (.int 1)) aNil)))) (aCons (dTup (aCons (dC (.int 1)) (aCons (dC (.int 0)) (aCons (dC (.int 2)) aNil)))) (aCons (dTup (aCons (dC (.int 1)) (aCons (dC (.int 2)) (aCons (dC (.int 0)) aNil)))) (aCons (dTup (aCons (dC (.int 2)) (aCons (dC (.int 0)) (aCons (dC (.int 1)) aNil)))) (aCons (dTup (aCons (dC (.int 2)) (aCons (dC (.int 1)) (aCons (dC (.int 0)) aNil)))) aNil))))))))

def D__law_book (F__law_pick : Fn) : Fn := fnD 5
    (dSeq (dSet 2 (dOp kIxU (dLst (aCons (dC (.int 1)) (aCons (dC (.int 2)) (aCons (dC (.int 3)) (aCons (dC (.int 4)) (aCons (dC (.int 9)) (aCons (dC (.int 50)) aNil))))))) (dCall F__law_pick 3 (aCons (dVar 0) (aCons (dVar 1) (aCons (dC (.int 6)) aNil))))))
    (dSeq (dSet 3 (dLst aNil))
    (dSeq (dForC [0, 1, 2, 3] (dRng1 (aCons (dC (.int 6)) aNil)) (.nm 4) (dExpr (dM "list" kAppend (dVar 3) (aCons (dOp kMul (dCall F__law_pick 3 (aCons (dVar 0) (aCons (dOp kAdd (dOp kAdd (dVar 1) (dC (.int 1))) (dVar 4)) (aCons (dOp kAdd (dVar 2) (dC (.int 1))) aNil)))) (dB kInt (aCons (dOp kGt (dCall F__law_pick 3 (aCons (dVar 0) (aCons (dOp kAdd (dOp kAdd (dVar 1) (dC (.int 8))) (dVar 4)) (aCons (dC (.int 3)) aNil)))) (dC (.int 0))) aNil))) aNil))))
    (dRet (dB kTuple (aCons (dVar 3) aNil))))))

def D__law_more (F__law_wishes : Fn) : Fn := fnD 6
    (dSeq (dSet 3 (dC (.int 0)))
    (dSeq (dForC [1, 2, 3] (dZipS (aCons (dCall0 F__law_wishes) (aCons (dVar 0) aNil))) (.tp [4, 5]) (dSet 3 (dOp kAdd (dVar 3) (dIf (dTest (dOp kLt (dM2 "tuple" kIndexT "list" kIndexL (dVar 4) (aCons (dVar 1) aNil)) (dM2 "tuple" kIndexT "list" kIndexL (dVar 4) (aCons (dVar 2) aNil)))) (dVar 5) (dOp kSub (dC (.int 0)) (dVar 5))))))
    (dRet (dVar 3))))

def D__law_whole : Fn := fnD 3
    (dRet (dAndV (dB kIsi (aCons (dVar 0) (aCons (dC (.ty "int")) aNil))) (dAndV (dNotV (dB kIsi (aCons (dVar 0) (aCons (dC (.ty "bool")) aNil)))) (dChain kLe kLe (dVar 1) (dVar 0) (dVar 2)))))

def D__law_is_book (F__law_whole : Fn) : Fn := fnD 2
    (dRet (dAndV (dB kIsi (aCons (dVar 0) (aCons (dC (.ty "tuple")) aNil))) (dAndV (dOp kEq (dB kLen (aCons (dVar 0) aNil)) (dC (.int 6))) (dOp kEq (dComp [1] (dIt (dVar 0)) (.nm 1) (dNot (dTest (dCall F__law_whole 3 (aCons (dVar 1) (aCons (dC (.int 0)) (aCons (dC (.int 99)) aNil)))))) (dVar 1)) (dLst aNil)))))

def D__law_is_rule (F__law_whole : Fn) (F__law_is_rule : Fn) : Fn := fnD 5
    (dSeq (dIfS (dOr (dTest (dOp kLt (dVar 1) (dC (.int 1)))) (dOr (dNot (dTest (dB kIsi (aCons (dVar 0) (aCons (dC (.ty "tuple")) aNil))))) (dOr (dTest (dOp kEq (dVar 0) (dTup aNil))) (dNot (dTest (dB kIsi (aCons (dOp kIxU (dVar 0) (dC (.int 0))) (aCons (dC (.ty "str")) aNil)))))))) (dRet (dC (.bl false))) dNx)
    (dSeq (dSet 2 (dSl (dVar 0) (oSome (dC (.int 1))) oNone))
    (dSeq (dIfS (dTest (dOp kIn (dOp kIxU (dVar 0) (dC (.int 0))) (dTup (aCons (dC (.str (Str.mk #[100, 117, 101, 108, 115]))) (aCons (dC (.str (Str.mk #[119, 111, 114, 115, 116]))) aNil))))) (dRet (dOp kEq (dVar 2) (dTup aNil))) dNx)
    (dSeq (dIfS (dTest (dOp kEq (dOp kIxU (dVar 0) (dC (.int 0))) (dC (.str (Str.mk #[112, 111, 105, 110, 116, 115]))))) (dSeq (dIfS (dOr (dTest (dOp kNe (dB kLen (aCons (dVar 2) aNil)) (dC (.int 1)))) (dOr (dNot (dTest (dB kIsi (aCons (dOp kIxU (dVar 2) (dC (.int 0))) (aCons (dC (.ty "tuple")) aNil))))) (dTest (dOp kNe (dB kLen (aCons (dOp kIxU (dVar 2) (dC (.int 0))) aNil)) (dC (.int 3)))))) (dRet (dC (.bl false))) dNx)
    (dRet (dOp kEq (dComp [3] (dIt (dOp kIxU (dVar 2) (dC (.int 0)))) (.nm 3) (dNot (dTest (dCall F__law_whole 3 (aCons (dVar 3) (aCons (dC (.int 0)) (aCons (dC (.int 9)) aNil)))))) (dVar 3)) (dLst aNil)))) dNx)
    (dSeq (dIfS (dTest (dOp kNotIn (dTup (aCons (dOp kIxU (dVar 0) (dC (.int 0))) (aCons (dB kLen (aCons (dVar 2) aNil)) aNil))) (dTup (aCons (dTup (aCons (dC (.str (Str.mk #[111, 117, 116]))) (aCons (dC (.int 1)) aNil))) (aCons (dTup (aCons (dC (.str (Str.mk #[98, 97, 99, 107]))) (aCons (dC (.int 1)) aNil))) (aCons (dTup (aCons (dC (.str (Str.mk #[116, 104, 101, 110]))) (aCons (dC (.int 2)) aNil))) aNil)))))) (dRet (dC (.bl false))) dNx)
    (dRet (dOp kEq (dComp [4] (dIt (dVar 2)) (.nm 4) (dNot (dTest (dCall F__law_is_rule 2 (aCons (dVar 4) (aCons (dOp kSub (dVar 1) (dC (.int 1))) aNil))))) (dVar 4)) (dLst aNil))))))))

def is_whole : Fn := D_is_whole
def is_book : Fn := D_is_book is_whole
def look_book : Fn := D_look_book is_book
def size : Fn := D_size look_book
def _law_cell (ns : List Int) : Fn := D__law_cell ns
def _law_pick (ns : List Int) : Fn := D__law_pick (_law_cell ns)
def _law_wishes : Fn := D__law_wishes
def _law_book (ns : List Int) : Fn := D__law_book (_law_pick ns)
def _law_more : Fn := D__law_more _law_wishes
def _law_whole : Fn := D__law_whole
def _law_is_book : Fn := D__law_is_book _law_whole
def _law_is_rule : Nat → Fn
  | 0 => noF
  | d + 1 => D__law_is_rule _law_whole (_law_is_rule d)
def D_is_wish (F_is_whole : Fn) : Fn := fnD 2
    (dSeq (dIfS (dOr (dNot (dTest (dB kIsi (aCons (dVar 0) (aCons (dC (.ty "tuple")) aNil))))) (dOr (dTest (dOp kNe (dB kLen (aCons (dVar 0) aNil)) (dC (.int 3)))) (dNot (dTest (dB kAll (aCons (dComp [1] (dIt (dVar 0)) (.nm 1) dYes (dCall F_is_whole 3 (aCons (dVar 1) (aCons (dC (.int 0)) (aCons (dC (.int 2)) aNil))))) aNil)))))) (dRet (dC (.bl false))) dNx)
    (dRet (dOp kIn (dVar 0) (dC c_WISHES))))

def D_look_thing (F_is_whole : Fn) : Fn := fnD 1
    (dIfS (dNot (dTest (dCall F_is_whole 3 (aCons (dVar 0) (aCons (dC (.int 0)) (aCons (dC (.int 2)) aNil)))))) dNo dNx)

def D_all_wishes (F_look_book : Fn) : Fn := fnD 4
    (dSeq (dExpr (dCall F_look_book 1 (aCons (dVar 0) aNil)))
    (dSeq (dSet 1 (dLst aNil))
    (dSeq (dForC [1] (dZipS (aCons (dC c_WISHES) (aCons (dVar 0) aNil))) (.tp [2, 3]) (dExpr (dM "list" kExtend (dVar 1) (aCons (dOp kMul (dLst (aCons (dVar 2) aNil)) (dVar 3)) aNil))))
    (dRet (dVar 1)))))

def D_of_wishes (F_is_wish : Fn) (F_look_book : Fn) : Fn := fnD 4
    (dSeq (dIfS (dNot (dTest (dB kAll (aCons (dComp [1] (dIt (dVar 0)) (.nm 1) dYes (dCall F_is_wish 1 (aCons (dVar 1) aNil))) aNil)))) dNo dNx)
    (dSeq (dSet 2 (dB kTuple (aCons (dComp [1] (dIt (dC c_WISHES)) (.nm 1) dYes (dB kLen (aCons (dComp [3] (dIt (dVar 0)) (.nm 3) (dTest (dOp kEq (dVar 3) (dVar 1))) (dC (.int 1))) aNil))) aNil)))
    (dSeq (dExpr (dCall F_look_book 1 (aCons (dVar 2) aNil)))
    (dRet (dVar 2)))))

def D_plus (F_look_book : Fn) : Fn := fnD 5
    (dSeq (dExpr (dCall F_look_book 1 (aCons (dVar 0) aNil)))
    (dSeq (dExpr (dCall F_look_book 1 (aCons (dVar 1) aNil)))
    (dSeq (dSet 2 (dB kTuple (aCons (dComp [3, 4] (dZipS (aCons (dVar 0) (aCons (dVar 1) aNil))) (.tp [3, 4]) dYes (dOp kAdd (dVar 3) (dVar 4))) aNil)))
    (dSeq (dExpr (dCall F_look_book 1 (aCons (dVar 2) aNil)))
    (dRet (dVar 2))))))

def D_turned (F_look_book : Fn) : Fn := fnD 2
    (dSeq (dExpr (dCall F_look_book 1 (aCons (dVar 0) aNil)))
    (dRet (dB kTuple (aCons (dComp [1] (dIt (dC c_WISHES)) (.nm 1) dYes (dOp kIxU (dVar 0) (dM2 "tuple" kIndexT "list" kIndexL (dC c_WISHES) (aCons (dRev (dVar 1)) aNil)))) aNil))))

def D_renamed (F_look_book : Fn) (F_is_wish : Fn) : Fn := fnD 6
    (dSeq (dExpr (dCall F_look_book 1 (aCons (dVar 0) aNil)))
    (dSeq (dIfS (dNot (dTest (dCall F_is_wish 1 (aCons (dVar 1) aNil)))) dNo dNx)
    (dSeq (dSet 2 dNewD)
    (dSeq (dForC [1, 2] (dZipS (aCons (dC c_WISHES) (aCons (dVar 0) aNil))) (.tp [3, 4]) (dPutK kPutX (dVar 2) (dB kTuple (aCons (dComp [5] (dIt (dVar 3)) (.nm 5) dYes (dOp kIxU (dVar 1) (dVar 5))) aNil)) (dVar 4)))
    (dRet (dB kTuple (aCons (dComp [3] (dIt (dC c_WISHES)) (.nm 3) dYes (dOp kDgX (dVar 2) (dVar 3))) aNil)))))))

def D_ahead_in : Fn := fnD 5
    (dRet (dB kSumA (aCons (dComp [3, 4] (dZipS (aCons (dC c_WISHES) (aCons (dVar 0) aNil))) (.tp [3, 4]) (dTest (dOp kLt (dM2 "tuple" kIndexT "list" kIndexL (dVar 3) (aCons (dVar 1) aNil)) (dM2 "tuple" kIndexT "list" kIndexL (dVar 3) (aCons (dVar 2) aNil)))) (dVar 4)) aNil)))

def D_ahead (F_look_book : Fn) (F_look_thing : Fn) (F_ahead_in : Fn) : Fn := fnD 3
    (dSeq (dExpr (dCall F_look_book 1 (aCons (dVar 0) aNil)))
    (dSeq (dExpr (dCall F_look_thing 1 (aCons (dVar 1) aNil)))
    (dSeq (dExpr (dCall F_look_thing 1 (aCons (dVar 2) aNil)))
    (dRet (dCall F_ahead_in 3 (aCons (dVar 0) (aCons (dVar 1) (aCons (dVar 2) aNil))))))))

def D_lifted_wish : Fn := fnD 4
    (dSeq (dSet 2 (dM2 "tuple" kIndexT "list" kIndexL (dVar 0) (aCons (dVar 1) aNil)))
    (dSeq (dIfS (dTest (dOp kEq (dVar 2) (dC (.int 0)))) (dRet (dVar 0)) dNx)
    (dSeq (dSet 3 (dB kList (aCons (dVar 0) aNil)))
    (dSeq (dPut2 (dVar 3) (dOp kSub (dVar 2) (dC (.int 1))) (dVar 3) (dVar 2) (aCons (dOp kIxU (dVar 3) (dVar 2)) (aCons (dOp kIxU (dVar 3) (dOp kSub (dVar 2) (dC (.int 1)))) aNil)))
    (dRet (dB kTuple (aCons (dVar 3) aNil)))))))

def D_lifted (F_look_book : Fn) (F_look_thing : Fn) (F_is_whole : Fn) (F_lifted_wish : Fn) : Fn := fnD 5
    (dSeq (dExpr (dCall F_look_book 1 (aCons (dVar 0) aNil)))
    (dSeq (dExpr (dCall F_look_thing 1 (aCons (dVar 2) aNil)))
    (dSeq (dIfS (dOr (dNot (dTest (dCall F_is_whole 3 (aCons (dVar 1) (aCons (dC (.int 0)) (aCons (dC (.int 5)) aNil)))))) (dTest (dOp kEq (dOp kIxU (dVar 0) (dVar 1)) (dC (.int 0))))) dNo dNx)
    (dSeq (dSet 3 (dB kList (aCons (dVar 0) aNil)))
    (dSeq (dPutK kPut (dVar 3) (dVar 1) (dOp kSub (dOp kIxU (dVar 3) (dVar 1)) (dC (.int 1))))
    (dSeq (dSet 4 (dM2 "tuple" kIndexT "list" kIndexL (dC c_WISHES) (aCons (dCall F_lifted_wish 2 (aCons (dOp kIxU (dC c_WISHES) (dVar 1)) (aCons (dVar 2) aNil))) aNil)))
    (dSeq (dPutK kPut (dVar 3) (dVar 4) (dOp kAdd (dOp kIxU (dVar 3) (dVar 4)) (dC (.int 1))))
    (dSeq (dExpr (dCall F_look_book 1 (aCons (dB kTuple (aCons (dVar 3) aNil)) aNil)))
    (dRet (dB kTuple (aCons (dVar 3) aNil)))))))))))

def is_wish : Fn := D_is_wish is_whole
def look_thing : Fn := D_look_thing is_whole
def all_wishes : Fn := D_all_wishes look_book
def of_wishes : Fn := D_of_wishes is_wish look_book
def plus : Fn := D_plus look_book
def turned : Fn := D_turned look_book
def renamed : Fn := D_renamed look_book is_wish
def ahead_in : Fn := D_ahead_in
def ahead : Fn := D_ahead look_book look_thing ahead_in
def lifted_wish : Fn := D_lifted_wish
def lifted : Fn := D_lifted look_book look_thing is_whole lifted_wish
def D_more (F_ahead_in : Fn) : Fn := fnD 3
    (dRet (dOp kSub (dCall F_ahead_in 3 (aCons (dVar 0) (aCons (dVar 1) (aCons (dVar 2) aNil)))) (dCall F_ahead_in 3 (aCons (dVar 0) (aCons (dVar 2) (aCons (dVar 1) aNil))))))

def D_is_rule_in (F_is_whole : Fn) (F_is_rule_in : Fn) : Fn := fnD 5
    (dSeq (dIfS (dOr (dTest (dOp kEq (dVar 1) (dC (.int 0)))) (dOr (dNot (dTest (dB kIsi (aCons (dVar 0) (aCons (dC (.ty "tuple")) aNil))))) (dOr (dTest (dOp kEq (dVar 0) (dTup aNil))) (dNot (dTest (dB kIsi (aCons (dOp kIxU (dVar 0) (dC (.int 0))) (aCons (dC (.ty "str")) aNil)))))))) (dRet (dC (.bl false))) dNx)
    (dSeq (dSet 2 (dOp kIxU (dVar 0) (dC (.int 0))))
    (dSeq (dIfS (dTest (dOp kIn (dVar 2) (dTup (aCons (dC (.str (Str.mk #[100, 117, 101, 108, 115]))) (aCons (dC (.str (Str.mk #[119, 111, 114, 115, 116]))) aNil))))) (dRet (dOp kEq (dB kLen (aCons (dVar 0) aNil)) (dC (.int 1)))) dNx)
    (dSeq (dIfS (dAnd (dTest (dOp kEq (dVar 2) (dC (.str (Str.mk #[112, 111, 105, 110, 116, 115]))))) (dTest (dOp kEq (dB kLen (aCons (dVar 0) aNil)) (dC (.int 2))))) (dSeq (dSet 3 (dOp kIxU (dVar 0) (dC (.int 1))))
    (dRet (dAndV (dB kIsi (aCons (dVar 3) (aCons (dC (.ty "tuple")) aNil))) (dAndV (dOp kEq (dB kLen (aCons (dVar 3) aNil)) (dC (.int 3))) (dB kAll (aCons (dComp [4] (dIt (dVar 3)) (.nm 4) dYes (dCall F_is_whole 3 (aCons (dVar 4) (aCons (dC (.int 0)) (aCons (dC c_MOST_POINTS) aNil))))) aNil)))))) dNx)
    (dSeq (dIfS (dAnd (dTest (dOp kIn (dVar 2) (dTup (aCons (dC (.str (Str.mk #[111, 117, 116]))) (aCons (dC (.str (Str.mk #[98, 97, 99, 107]))) aNil))))) (dTest (dOp kEq (dB kLen (aCons (dVar 0) aNil)) (dC (.int 2))))) (dRet (dCall F_is_rule_in 2 (aCons (dOp kIxU (dVar 0) (dC (.int 1))) (aCons (dOp kSub (dVar 1) (dC (.int 1))) aNil)))) dNx)
    (dSeq (dIfS (dOr (dTest (dOp kNe (dVar 2) (dC (.str (Str.mk #[116, 104, 101, 110]))))) (dTest (dOp kNe (dB kLen (aCons (dVar 0) aNil)) (dC (.int 3))))) (dRet (dC (.bl false))) dNx)
    (dRet (dAndV (dCall F_is_rule_in 2 (aCons (dOp kIxU (dVar 0) (dC (.int 1))) (aCons (dOp kSub (dVar 1) (dC (.int 1))) aNil))) (dCall F_is_rule_in 2 (aCons (dOp kIxU (dVar 0) (dC (.int 2))) (aCons (dOp kSub (dVar 1) (dC (.int 1))) aNil)))))))))))

def D_is_rule (F_is_rule_in : Fn) : Fn := fnD 1
    (dRet (dCall F_is_rule_in 2 (aCons (dVar 0) (aCons (dC c_DEEPEST) aNil))))

def D_look_rule (F_is_rule : Fn) : Fn := fnD 1
    (dIfS (dNot (dTest (dCall F_is_rule 1 (aCons (dVar 0) aNil)))) dNo dNx)

def D_points_of : Fn := fnD 10
    (dSeq (dSet 3 (dOp kIxU (dDisp [((dC (.int 1)), (dTup (aCons (dC (.int 0)) aNil))), ((dC (.int 2)), (dTup (aCons (dOp kIxU (dVar 0) (dC (.int 0))) (aCons (dOp kIxU (dVar 0) (dC (.int 2))) aNil)))), ((dC (.int 3)), (dVar 0))]) (dB kLen (aCons (dVar 2) aNil))))
    (dSeq (dSet 4 (dB kDict (aCons (dComp [5] (dIt (dVar 2)) (.nm 5) dYes (dTup (aCons (dVar 5) (aCons (dC (.int 0)) aNil)))) aNil)))
    (dSeq (dForC [2, 3, 4] (dZipS (aCons (dC c_WISHES) (aCons (dVar 1) aNil))) (.tp [6, 7]) (dSeq (dSet 8 (dComp [5] (dIt (dVar 6)) (.nm 5) (dTest (dOp kIn (dVar 5) (dVar 2))) (dVar 5)))
    (dForC [2, 3, 4, 7] (dZipS (aCons (dVar 8) (aCons (dVar 3) aNil))) (.tp [5, 9]) (dPutK kPut (dVar 4) (dVar 5) (dOp kAdd (dOp kIxU (dVar 4) (dVar 5)) (dOp kMul (dVar 9) (dVar 7)))))))
    (dRet (dVar 4)))))

def D_duels_of (F_more : Fn) : Fn := fnD 7
    (dSeq (dSet 2 dNewD)
    (dSeq (dForC [0, 1, 2] (dIt (dVar 1)) (.nm 3) (dSeq (dSet 4 (dComp [5] (dIt (dVar 1)) (.nm 5) (dTest (dOp kNe (dVar 5) (dVar 3))) (dCall F_more 3 (aCons (dVar 0) (aCons (dVar 3) (aCons (dVar 5) aNil))))))
    (dPutK kPut (dVar 2) (dVar 3) (dOp kAdd (dOp kMul (dC (.int 2)) (dB kLen (aCons (dComp [6] (dIt (dVar 4)) (.nm 6) (dTest (dOp kGt (dVar 6) (dC (.int 0)))) (dVar 6)) aNil))) (dB kLen (aCons (dComp [6] (dIt (dVar 4)) (.nm 6) (dTest (dOp kEq (dVar 6) (dC (.int 0)))) (dVar 6)) aNil))))))
    (dRet (dVar 2))))

def D_worst_of (F_more : Fn) : Fn := fnD 6
    (dSeq (dSet 2 dNewD)
    (dSeq (dForC [0, 1, 2] (dIt (dVar 1)) (.nm 3) (dSeq (dSet 4 (dComp [5] (dIt (dVar 1)) (.nm 5) (dTest (dOp kNe (dVar 5) (dVar 3))) (dCall F_more 3 (aCons (dVar 0) (aCons (dVar 3) (aCons (dVar 5) aNil))))))
    (dPutK kPut (dVar 2) (dVar 3) (dIf (dTest (dOp kNe (dVar 4) (dLst aNil))) (dB kMin (aCons (dVar 4) aNil)) (dC (.int 0))))))
    (dRet (dVar 2))))

def D_rows_by : Fn := fnD 4
    (dSeq (dSet 1 (dLst aNil))
    (dSeq (dForC [0, 1] (dIt (dRev (dB kSortU (aCons (dLock 0 (dComp [3] (dKeys (dVar 0)) (.nm 3) dYes (dOp kIxU (dVar 0) (dVar 3)))) aNil)))) (.nm 2) (dExpr (dM "list" kAppend (dVar 1) (aCons (dB kTuple (aCons (dB kSortA (aCons (dLock 0 (dComp [3] (dKeys (dVar 0)) (.nm 3) (dTest (dOp kEq (dOp kIxU (dVar 0) (dVar 3)) (dVar 2))) (dVar 3))) aNil)) aNil)) aNil))))
    (dRet (dVar 1))))

def D_by_leaving (F_ranked : Fn) : Fn := fnD 6
    (dSeq (dSet 3 (dLst aNil))
    (dSeq (whileD (dTest (dOp kNe (dVar 2) (dLst aNil))) (dSeq (dSet 4 (dOp kIxU (dCall F_ranked 3 (aCons (dVar 0) (aCons (dVar 1) (aCons (dVar 2) aNil)))) (dNeg (dC (.int 1)))))
    (dSeq (dExpr (dM "list" kAppend (dVar 3) (aCons (dVar 4) aNil)))
    (dSet 2 (dComp [5] (dIt (dVar 2)) (.nm 5) (dTest (dOp kNotIn (dVar 5) (dVar 4))) (dVar 5))))) 5)
    (dRet (dRev (dVar 3)))))

def D_ranked (F_rows_by : Fn) (F_points_of : Fn) (F_duels_of : Fn) (F_worst_of : Fn) (F_by_leaving : Fn) (F_ranked : Fn) (F_turned : Fn) : Fn := fnD 9
    (dSeq (dSet 3 (dOp kIxU (dVar 0) (dC (.int 0))))
    (dSeq (dIfS (dTest (dOp kEq (dVar 3) (dC (.str (Str.mk #[112, 111, 105, 110, 116, 115]))))) (dRet (dCall F_rows_by 1 (aCons (dCall F_points_of 3 (aCons (dOp kIxU (dVar 0) (dC (.int 1))) (aCons (dVar 1) (aCons (dVar 2) aNil)))) aNil))) dNx)
    (dSeq (dIfS (dTest (dOp kIn (dVar 3) (dTup (aCons (dC (.str (Str.mk #[100, 117, 101, 108, 115]))) (aCons (dC (.str (Str.mk #[119, 111, 114, 115, 116]))) aNil))))) (dRet (dCall F_rows_by 1 (aCons (dIf (dTest (dOp kEq (dVar 3) (dC (.str (Str.mk #[100, 117, 101, 108, 115]))))) (dCall F_duels_of 2 (aCons (dVar 1) (aCons (dVar 2) aNil))) (dCall F_worst_of 2 (aCons (dVar 1) (aCons (dVar 2) aNil)))) aNil))) dNx)
    (dSeq (dIfS (dTest (dOp kEq (dVar 3) (dC (.str (Str.mk #[111, 117, 116]))))) (dRet (dCall F_by_leaving 3 (aCons (dOp kIxU (dVar 0) (dC (.int 1))) (aCons (dVar 1) (aCons (dVar 2) aNil))))) dNx)
    (dSeq (dIfS (dTest (dOp kEq (dVar 3) (dC (.str (Str.mk #[98, 97, 99, 107]))))) (dRet (dRev (dCall F_ranked 3 (aCons (dOp kIxU (dVar 0) (dC (.int 1))) (aCons (dCall F_turned 1 (aCons (dVar 1) aNil)) (aCons (dVar 2) aNil)))))) dNx)
    (dSeq (dSet 4 (dLst aNil))
    (dSeq (dForC [0, 1, 2, 4] (dIt (dCall F_ranked 3 (aCons (dOp kIxU (dVar 0) (dC (.int 1))) (aCons (dVar 1) (aCons (dVar 2) aNil))))) (.nm 5) (dSeq (dSet 6 (dCall F_ranked 3 (aCons (dOp kIxU (dVar 0) (dC (.int 2))) (aCons (dVar 1) (aCons (dVar 2) aNil)))))
    (dExpr (dM "list" kExtend (dVar 4) (aCons (dComp [8] (dIt (dVar 6)) (.nm 8) dYes (dB kTuple (aCons (dComp [7] (dIt (dVar 8)) (.nm 7) (dTest (dOp kIn (dVar 7) (dVar 5))) (dVar 7)) aNil))) aNil)))))
    (dRet (dComp [5] (dIt (dVar 4)) (.nm 5) (dTest (dOp kNe (dVar 5) (dTup aNil))) (dVar 5))))))))))

def D_outcome (F_look_rule : Fn) (F_look_book : Fn) (F_ranked : Fn) : Fn := fnD 2
    (dSeq (dExpr (dCall F_look_rule 1 (aCons (dVar 0) aNil)))
    (dSeq (dExpr (dCall F_look_book 1 (aCons (dVar 1) aNil)))
    (dRet (dB kTuple (aCons (dCall F_ranked 3 (aCons (dVar 0) (aCons (dVar 1) (aCons (dB kList (aCons (dC c_THINGS) aNil)) aNil)))) aNil)))))

def D_winners (F_outcome : Fn) : Fn := fnD 2
    (dRet (dOp kIxU (dCall F_outcome 2 (aCons (dVar 0) (aCons (dVar 1) aNil))) (dC (.int 0))))

def D_duel_winner (F_look_book : Fn) (F_more : Fn) : Fn := fnD 4
    (dSeq (dExpr (dCall F_look_book 1 (aCons (dVar 0) aNil)))
    (dSeq (dSet 1 (dComp [2] (dIt (dC c_THINGS)) (.nm 2) (dTest (dB kAll (aCons (dComp [3] (dIt (dC c_THINGS)) (.nm 3) (dTest (dOp kNe (dVar 3) (dVar 2))) (dOp kGt (dCall F_more 3 (aCons (dVar 0) (aCons (dVar 2) (aCons (dVar 3) aNil)))) (dC (.int 0)))) aNil))) (dVar 2)))
    (dRet (dOp kIxU (dOp kAdd (dVar 1) (dLst (aCons (dC .non) aNil))) (dC (.int 0))))))

def D__law_rule (F__law_pick : Fn) (F__law_rule : Fn) : Fn := fnD 7
    (dSeq (dSet 3 (dCall F__law_pick 3 (aCons (dVar 0) (aCons (dVar 1) (aCons (dC (.int 8)) aNil)))))
    (dSeq (dIfS (dAnd (dTest (dOp kGt (dVar 3) (dC (.int 2)))) (dTest (dOp kGt (dVar 2) (dC (.int 1))))) (dSeq (dSet 4 (dCall F__law_rule 3 (aCons (dVar 0) (aCons (dOp kAdd (dVar 1) (dC (.int 5))) (aCons (dOp kSub (dVar 2) (dC (.int 1))) aNil)))))
    (dSeq (dIfS (dTest (dOp kLt (dVar 3) (dC (.int 6)))) (dRet (dTup (aCons (dOp kIxU (dLst (aCons (dC (.str (Str.mk #[111, 117, 116]))) (aCons (dC (.str (Str.mk #[111, 117, 116]))) (aCons (dC (.str (Str.mk #[98, 97, 99, 107]))) aNil)))) (dOp kSub (dVar 3) (dC (.int 3)))) (aCons (dVar 4) aNil)))) dNx)
    (dRet (dTup (aCons (dC (.str (Str.mk #[116, 104, 101, 110]))) (aCons (dVar 4) (aCons (dCall F__law_rule 3 (aCons (dVar 0) (aCons (dOp kAdd (dOp kAdd (dVar 1) (dC (.int 5))) (dOp kIxU (dLst (aCons (dC (.int 0)) (aCons (dC (.int 5)) (aCons (dC (.int 15)) aNil)))) (dOp kSub (dVar 2) (dC (.int 1))))) (aCons (dOp kSub (dVar 2) (dC (.int 1))) aNil)))) aNil))))))) dNx)
    (dSeq (dIfS (dTest (dOp kLt (dOp kMod (dVar 3) (dC (.int 4))) (dC (.int 2)))) (dRet (dOp kIxU (dLst (aCons (dTup (aCons (dC (.str (Str.mk #[100, 117, 101, 108, 115]))) aNil)) (aCons (dTup (aCons (dC (.str (Str.mk #[119, 111, 114, 115, 116]))) aNil)) aNil))) (dOp kMod (dVar 3) (dC (.int 4))))) dNx)
    (dSeq (dSet 5 (dLst (aCons (dTup (aCons (dC (.int 2)) (aCons (dC (.int 1)) (aCons (dC (.int 0)) aNil)))) (aCons (dTup (aCons (dC (.int 1)) (aCons (dC (.int 0)) (aCons (dC (.int 0)) aNil)))) (aCons (dTup (aCons (dC (.int 1)) (aCons (dC (.int 1)) (aCons (dC (.int 0)) aNil)))) (aCons (dB kTuple (aCons (dComp [6] (dRng1 (aCons (dC (.int 3)) aNil)) (.nm 6) dYes (dCall F__law_pick 3 (aCons (dVar 0) (aCons (dOp kAdd (dOp kAdd (dVar 1) (dC (.int 1))) (dVar 6)) (aCons (dC (.int 10)) aNil))))) aNil)) aNil))))))
    (dRet (dTup (aCons (dC (.str (Str.mk #[112, 111, 105, 110, 116, 115]))) (aCons (dOp kIxU (dVar 5) (dCall F__law_pick 3 (aCons (dVar 0) (aCons (dOp kAdd (dVar 1) (dC (.int 4))) (aCons (dC (.int 4)) aNil))))) aNil))))))))

def more : Fn := D_more ahead_in
def is_rule_in : Nat → Fn
  | 0 => noF
  | d + 1 => D_is_rule_in is_whole (is_rule_in d)
def is_rule : Fn := D_is_rule (is_rule_in 4)
def look_rule : Fn := D_look_rule is_rule
def points_of : Fn := D_points_of
def duels_of : Fn := D_duels_of more
def worst_of : Fn := D_worst_of more
def rows_by : Fn := D_rows_by
def ranked : Nat → Fn
  | 0 => noF
  | d + 1 => D_ranked rows_by points_of duels_of worst_of (D_by_leaving (ranked d)) (ranked d) turned
def outcome : Fn := D_outcome look_rule look_book (ranked 4)
def winners : Fn := D_winners outcome
def duel_winner : Fn := D_duel_winner look_book more
def _law_rule (ns : List Int) : Nat → Fn
  | 0 => noF
  | d + 1 => D__law_rule (_law_pick ns) (_law_rule ns d)
def D_row_of : Fn := fnD 4
    (dRet (dOp kIxU (dComp [2, 3] (dEnum (aCons (dVar 0) aNil)) (.tp [2, 3]) (dTest (dOp kIn (dVar 1) (dVar 3))) (dVar 2)) (dC (.int 0))))

def D__law_place : Fn := fnD 4
    (dRet (dOp kIxU (dComp [2, 3] (dEnum (aCons (dVar 0) aNil)) (.tp [2, 3]) (dTest (dOp kIn (dVar 1) (dVar 3))) (dVar 2)) (dC (.int 0))))

def D__law_worth (F__law_more : Fn) (F__law_wishes : Fn) : Fn := fnD 11
    (dSeq (dSet 4 (dComp [5] (dIt (dVar 2)) (.nm 5) (dTest (dOp kNe (dVar 5) (dVar 3))) (dVar 5)))
    (dSeq (dIfS (dTest (dOp kEq (dOp kIxU (dVar 0) (dC (.int 0))) (dC (.str (Str.mk #[100, 117, 101, 108, 115]))))) (dSeq (dSet 6 (dComp [5] (dIt (dVar 4)) (.nm 5) dYes (dCall F__law_more 3 (aCons (dVar 1) (aCons (dVar 3) (aCons (dVar 5) aNil))))))
    (dRet (dB kSumA (aCons (dComp [7] (dIt (dVar 6)) (.nm 7) dYes (dOp kSub (dOp kAdd (dC (.int 1)) (dB kInt (aCons (dOp kGt (dVar 7) (dC (.int 0))) aNil))) (dB kInt (aCons (dOp kLt (dVar 7) (dC (.int 0))) aNil)))) aNil)))) dNx)
    (dSeq (dIfS (dTest (dOp kEq (dOp kIxU (dVar 0) (dC (.int 0))) (dC (.str (Str.mk #[119, 111, 114, 115, 116]))))) (dRet (dIf (dTest (dOp kNe (dVar 4) (dLst aNil))) (dB kMin (aCons (dComp [5] (dIt (dVar 4)) (.nm 5) dYes (dCall F__law_more 3 (aCons (dVar 1) (aCons (dVar 3) (aCons (dVar 5) aNil))))) aNil)) (dC (.int 0)))) dNx)
    (dSeq (dSet 8 (dC (.int 0)))
    (dSeq (dForC [0, 2, 3, 4, 8] (dZipS (aCons (dCall0 F__law_wishes) (aCons (dVar 1) aNil))) (.tp [9, 7]) (dSeq (dSet 10 (dB kLen (aCons (dComp [5] (dIt (dVar 4)) (.nm 5) (dTest (dOp kLt (dM2 "tuple" kIndexT "list" kIndexL (dVar 9) (aCons (dVar 5) aNil)) (dM2 "tuple" kIndexT "list" kIndexL (dVar 9) (aCons (dVar 3) aNil)))) (dVar 5)) aNil)))
    (dIfS (dTest (dOp kEq (dB kLen (aCons (dVar 2) aNil)) (dC (.int 3)))) (dSet 8 (dOp kAdd (dVar 8) (dOp kMul (dVar 7) (dOp kIxU (dOp kIxU (dVar 0) (dC (.int 1))) (dVar 10))))) (dIfS (dTest (dOp kEq (dB kLen (aCons (dVar 2) aNil)) (dC (.int 2)))) (dSet 8 (dOp kAdd (dVar 8) (dOp kMul (dVar 7) (dOp kIxU (dOp kIxU (dVar 0) (dC (.int 1))) (dOp kMul (dC (.int 2)) (dVar 10)))))) dNx))))
    (dRet (dVar 8)))))))

def D__law_rows (F__law_rows : Fn) (F__law_wishes : Fn) (F__law_place : Fn) (F__law_worth : Fn) : Fn := fnD 12
    (dSeq (dIfS (dTest (dOp kEq (dOp kIxU (dVar 0) (dC (.int 0))) (dC (.str (Str.mk #[111, 117, 116]))))) (dSeq (dIfS (dTest (dOp kEq (dVar 2) (dLst aNil))) (dRet (dLst aNil)) dNx)
    (dSeq (dSet 3 (dOp kIxU (dCall F__law_rows 3 (aCons (dOp kIxU (dVar 0) (dC (.int 1))) (aCons (dVar 1) (aCons (dVar 2) aNil)))) (dNeg (dC (.int 1)))))
    (dRet (dOp kAdd (dCall F__law_rows 3 (aCons (dVar 0) (aCons (dVar 1) (aCons (dComp [4] (dIt (dVar 2)) (.nm 4) (dTest (dOp kNotIn (dVar 4) (dVar 3))) (dVar 4)) aNil)))) (dLst (aCons (dVar 3) aNil)))))) dNx)
    (dSeq (dIfS (dTest (dOp kEq (dOp kIxU (dVar 0) (dC (.int 0))) (dC (.str (Str.mk #[98, 97, 99, 107]))))) (dSeq (dSet 5 (dB kTuple (aCons (dComp [6] (dIt (dCall0 F__law_wishes)) (.nm 6) dYes (dOp kIxU (dVar 1) (dM2 "tuple" kIndexT "list" kIndexL (dCall0 F__law_wishes) (aCons (dRev (dVar 6)) aNil)))) aNil)))
    (dRet (dRev (dCall F__law_rows 3 (aCons (dOp kIxU (dVar 0) (dC (.int 1))) (aCons (dVar 5) (aCons (dVar 2) aNil))))))) dNx)
    (dSeq (dIfS (dTest (dOp kEq (dOp kIxU (dVar 0) (dC (.int 0))) (dC (.str (Str.mk #[116, 104, 101, 110]))))) (dSeq (dAsgT (.tp [7, 3]) (dTup (aCons (dCall F__law_rows 3 (aCons (dOp kIxU (dVar 0) (dC (.int 1))) (aCons (dVar 1) (aCons (dVar 2) aNil)))) (aCons (dCall F__law_rows 3 (aCons (dOp kIxU (dVar 0) (dC (.int 2))) (aCons (dVar 1) (aCons (dVar 2) aNil)))) aNil))))
    (dSet 8 (dComp [4] (dIt (dVar 2)) (.nm 4) dYes (dTup (aCons (dCall F__law_place 2 (aCons (dVar 7) (aCons (dVar 4) aNil))) (aCons (dCall F__law_place 2 (aCons (dVar 3) (aCons (dVar 4) aNil))) (aCons (dVar 4) aNil))))))) (dSet 8 (dComp [4] (dIt (dVar 2)) (.nm 4) dYes (dTup (aCons (dOp kSub (dC (.int 0)) (dCall F__law_worth 4 (aCons (dVar 0) (aCons (dVar 1) (aCons (dVar 2) (aCons (dVar 4) aNil)))))) (aCons (dC (.int 0)) (aCons (dVar 4) aNil)))))))
    (dSeq (dSet 9 (dLst aNil))
    (dSeq (dForC [8, 9] (dIt (dB kSortU (aCons (dComp [11] (dIt (dVar 8)) (.nm 11) dYes (dSl (dVar 11) oNone (oSome (dC (.int 2))))) aNil))) (.nm 10) (dExpr (dM "list" kAppend (dVar 9) (aCons (dB kTuple (aCons (dB kSortA (aCons (dComp [11] (dIt (dVar 8)) (.nm 11) (dTest (dOp kEq (dSl (dVar 11) oNone (oSome (dC (.int 2)))) (dVar 10))) (dOp kIxU (dVar 11) (dC (.int 2)))) aNil)) aNil)) aNil))))
    (dRet (dVar 9)))))))

def row_of : Fn := D_row_of
def _law_place : Fn := D__law_place
def _law_worth : Fn := D__law_worth _law_more _law_wishes
def _law_rows : Nat → Fn
  | 0 => noF
  | d + 1 => D__law_rows (_law_rows d) _law_wishes _law_place _law_worth
def D_all_books : Fn := fnD 6
    (dSeq (dSet 1 (dLst (aCons (dTup aNil) aNil)))
    (dSeq (dForC [0, 1] (dRng1 (aCons (dC (.int 5)) aNil)) (.nm 2) (dSeq (dSet 3 (dLst aNil))
    (dSeq (dForC [0, 3] (dIt (dVar 1)) (.nm 4) (dExpr (dM "list" kExtend (dVar 3) (aCons (dComp [5] (dRng1 (aCons (dOp kAdd (dOp kSub (dVar 0) (dB kSumA (aCons (dVar 4) aNil))) (dC (.int 1))) aNil)) (.nm 5) dYes (dOp kAdd (dVar 4) (dTup (aCons (dVar 5) aNil)))) aNil))))
    (dSet 1 (dVar 3)))))
    (dRet (dComp [4] (dIt (dVar 1)) (.nm 4) dYes (dOp kAdd (dVar 4) (dTup (aCons (dOp kSub (dVar 0) (dB kSumA (aCons (dVar 4) aNil))) aNil)))))))

def D_is_first_for_all (F_ahead_in : Fn) : Fn := fnD 3
    (dRet (dAndV (dOp kGt (dB kSumA (aCons (dVar 0) aNil)) (dC (.int 0))) (dOp kEq (dCall F_ahead_in 3 (aCons (dVar 0) (aCons (dVar 1) (aCons (dVar 2) aNil)))) (dB kSumA (aCons (dVar 0) aNil)))))

def D_look_promise : Fn := fnD 1
    (dIfS (dOr (dNot (dTest (dB kIsi (aCons (dVar 0) (aCons (dC (.ty "str")) aNil))))) (dTest (dOp kNotIn (dVar 0) (dC c_PROMISES)))) dNo dNx)

def D_pairs : Fn := fnD 3
    (dSeq (dSet 0 (dLst aNil))
    (dSeq (dForC [0] (dIt (dC c_THINGS)) (.nm 1) (dExpr (dM "list" kExtend (dVar 0) (aCons (dComp [2] (dIt (dC c_THINGS)) (.nm 2) (dTest (dOp kNe (dVar 2) (dVar 1))) (dTup (aCons (dVar 1) (aCons (dVar 2) aNil)))) aNil))))
    (dRet (dVar 0))))

def D_lesser_books (F_all_books : Fn) : Fn := fnD 4
    (dSeq (dSet 1 (dLst aNil))
    (dSeq (dForC [1] (dRng2 (aCons (dC (.int 1)) (aCons (dOp kAdd (dB kSumA (aCons (dVar 0) aNil)) (dC (.int 1))) aNil))) (.nm 2) (dExpr (dM "list" kExtend (dVar 1) (aCons (dComp [3] (dIt (dCall F_all_books 1 (aCons (dVar 2) aNil))) (.nm 3) dYes (dTup (aCons (dVar 3) aNil))) aNil))))
    (dRet (dVar 1))))

def D_cases (F_pairs : Fn) (F_lesser_books : Fn) : Fn := fnD 7
    (dSeq (dIfS (dTest (dOp kEq (dVar 0) (dC (.str (Str.mk #[110, 97, 109, 101, 115]))))) (dRet (dComp [2] (dIt (dC c_WISHES)) (.nm 2) dYes (dTup (aCons (dVar 2) aNil)))) dNx)
    (dSeq (dIfS (dTest (dOp kEq (dVar 0) (dC (.str (Str.mk #[97, 108, 108]))))) (dRet (dCall0 F_pairs)) dNx)
    (dSeq (dIfS (dTest (dOp kEq (dVar 0) (dC (.str (Str.mk #[108, 105, 102, 116, 101, 100]))))) (dSeq (dSet 3 (dLst aNil))
    (dSeq (dForC [1, 3] (dRng1 (aCons (dC (.int 6)) aNil)) (.nm 4) (dIfS (dTest (dOp kGt (dOp kIxU (dVar 1) (dVar 4)) (dC (.int 0)))) (dExpr (dM "list" kExtend (dVar 3) (aCons (dComp [5] (dIt (dC c_THINGS)) (.nm 5) (dTest (dOp kNe (dOp kIxU (dOp kIxU (dC c_WISHES) (dVar 4)) (dC (.int 0))) (dVar 5))) (dTup (aCons (dVar 4) (aCons (dVar 5) aNil)))) aNil))) dNx))
    (dRet (dVar 3)))) dNx)
    (dSeq (dIfS (dTest (dOp kEq (dVar 0) (dC (.str (Str.mk #[106, 111, 105, 110, 101, 100]))))) (dRet (dCall F_lesser_books 1 (aCons (dVar 1) aNil))) dNx)
    (dSeq (dIfS (dTest (dOp kEq (dVar 0) (dC (.str (Str.mk #[115, 116, 97, 121, 115, 32, 97, 119, 97, 121]))))) (dRet (dComp [4, 5] (dEnum (aCons (dComp [6] (dIt (dC c_WISHES)) (.nm 6) dYes (dOp kIxU (dVar 6) (dC (.int 0)))) aNil)) (.tp [4, 5]) dYes (dTup (aCons (dVar 4) (aCons (dVar 5) aNil))))) dNx)
    (dRet (dLst (aCons (dTup aNil) aNil))))))))

def D_is_parted (F_outcome : Fn) (F_plus : Fn) : Fn := fnD 6
    (dSeq (dSet 4 (dComp [5] (dIt (dOp kIxU (dVar 1) (dC (.int 0)))) (.nm 5) (dTest (dOp kIn (dVar 5) (dOp kIxU (dCall F_outcome 2 (aCons (dVar 0) (aCons (dVar 3) aNil))) (dC (.int 0))))) (dVar 5)))
    (dRet (dAndV (dOp kNe (dVar 4) (dLst aNil)) (dOp kNe (dB kList (aCons (dOp kIxU (dCall F_outcome 2 (aCons (dVar 0) (aCons (dCall F_plus 2 (aCons (dVar 2) (aCons (dVar 3) aNil))) aNil))) (dC (.int 0))) aNil)) (dVar 4)))))

def D_is_left (F_outcome : Fn) : Fn := fnD 7
    (dSeq (dAsgT (.tp [4, 5]) (dVar 3))
    (dSeq (dSet 6 (dOp kAdd (dOp kAdd (dSl (dVar 2) oNone (oSome (dVar 4))) (dTup (aCons (dOp kAdd (dOp kIxU (dVar 2) (dVar 4)) (dC (.int 1))) aNil))) (dSl (dVar 2) (oSome (dOp kAdd (dVar 4) (dC (.int 1)))) oNone)))
    (dRet (dAndV (dOp kIn (dVar 5) (dOp kIxU (dVar 1) (dC (.int 0)))) (dOp kNotIn (dVar 5) (dOp kIxU (dCall F_outcome 2 (aCons (dVar 0) (aCons (dVar 6) aNil))) (dC (.int 0))))))))

def D_is_broken (F_outcome : Fn) (F_renamed : Fn) (F_row_of : Fn) (F_is_first_for_all : Fn) (F_lifted : Fn) (F_is_parted : Fn) (F_duel_winner : Fn) (F_plus : Fn) (F_turned : Fn) (F_is_left : Fn) : Fn := fnD 10
    (dSeq (dSet 4 (dB kTuple (aCons (dCall F_outcome 2 (aCons (dVar 0) (aCons (dVar 2) aNil))) aNil)))
    (dSeq (dIfS (dTest (dOp kEq (dVar 1) (dC (.str (Str.mk #[110, 97, 109, 101, 115]))))) (dSeq (dSet 5 (dComp [7] (dIt (dVar 4)) (.nm 7) dYes (dB kTuple (aCons (dB kSortA (aCons (dComp [6] (dIt (dVar 7)) (.nm 6) dYes (dOp kIxU (dOp kIxU (dVar 3) (dC (.int 0))) (dVar 6))) aNil)) aNil))))
    (dRet (dOp kNe (dCall F_outcome 2 (aCons (dVar 0) (aCons (dCall F_renamed 2 (aCons (dVar 2) (aCons (dOp kIxU (dVar 3) (dC (.int 0))) aNil))) aNil))) (dB kTuple (aCons (dVar 5) aNil))))) dNx)
    (dSeq (dIfS (dTest (dOp kEq (dVar 1) (dC (.str (Str.mk #[97, 108, 108]))))) (dRet (dAndV (dCall F_is_first_for_all 3 (aCons (dVar 2) (aCons (dOp kIxU (dVar 3) (dC (.int 0))) (aCons (dOp kIxU (dVar 3) (dC (.int 1))) aNil)))) (dOp kGe (dCall F_row_of 2 (aCons (dVar 4) (aCons (dOp kIxU (dVar 3) (dC (.int 0))) aNil))) (dCall F_row_of 2 (aCons (dVar 4) (aCons (dOp kIxU (dVar 3) (dC (.int 1))) aNil)))))) dNx)
    (dSeq (dIfS (dTest (dOp kEq (dVar 1) (dC (.str (Str.mk #[108, 105, 102, 116, 101, 100]))))) (dSeq (dSet 8 (dCall F_outcome 2 (aCons (dVar 0) (aCons (dCall F_lifted 3 (aCons (dVar 2) (aCons (dOp kIxU (dVar 3) (dC (.int 0))) (aCons (dOp kIxU (dVar 3) (dC (.int 1))) aNil)))) aNil))))
    (dRet (dAndV (dOp kIn (dOp kIxU (dVar 3) (dC (.int 1))) (dOp kIxU (dVar 4) (dC (.int 0)))) (dOp kNotIn (dOp kIxU (dVar 3) (dC (.int 1))) (dOp kIxU (dVar 8) (dC (.int 0))))))) dNx)
    (dSeq (dIfS (dTest (dOp kEq (dVar 1) (dC (.str (Str.mk #[106, 111, 105, 110, 101, 100]))))) (dRet (dCall F_is_parted 4 (aCons (dVar 0) (aCons (dVar 4) (aCons (dVar 2) (aCons (dOp kIxU (dVar 3) (dC (.int 0))) aNil)))))) dNx)
    (dSeq (dIfS (dTest (dOp kEq (dVar 1) (dC (.str (Str.mk #[100, 117, 101, 108, 115]))))) (dSeq (dSet 9 (dCall F_duel_winner 1 (aCons (dVar 2) aNil)))
    (dRet (dAndV (dOp kIsNot (dVar 9) (dC .non)) (dOp kNe (dOp kIxU (dVar 4) (dC (.int 0))) (dTup (aCons (dVar 9) aNil)))))) dNx)
    (dSeq (dIfS (dTest (dOp kEq (dVar 1) (dC (.str (Str.mk #[116, 119, 105, 99, 101]))))) (dRet (dOp kNe (dCall F_outcome 2 (aCons (dVar 0) (aCons (dCall F_plus 2 (aCons (dVar 2) (aCons (dVar 2) aNil))) aNil))) (dVar 4))) dNx)
    (dSeq (dIfS (dTest (dOp kEq (dVar 1) (dC (.str (Str.mk #[116, 117, 114, 110, 101, 100]))))) (dRet (dOp kNe (dCall F_outcome 2 (aCons (dVar 0) (aCons (dCall F_turned 1 (aCons (dVar 2) aNil)) aNil))) (dRev (dVar 4)))) dNx)
    (dRet (dCall F_is_left 4 (aCons (dVar 0) (aCons (dVar 4) (aCons (dVar 2) (aCons (dVar 3) aNil))))))))))))))

def D_has_truth (F_has_truth : Fn) : Fn := fnD 2
    (dSeq (dIfS (dTest (dB kIsi (aCons (dVar 0) (aCons (dTup (aCons (dC (.ty "tuple")) (aCons (dC (.ty "list")) aNil))) aNil)))) (dRet (dB kAny (aCons (dComp [1] (dIt (dVar 0)) (.nm 1) dYes (dCall F_has_truth 1 (aCons (dVar 1) aNil))) aNil))) dNx)
    (dRet (dB kIsi (aCons (dVar 0) (aCons (dC (.ty "bool")) aNil)))))

def D_fits_case (F_has_truth : Fn) (F_is_book : Fn) (F_cases : Fn) : Fn := fnD 3
    (dSeq (dIfS (dOr (dNot (dTest (dB kIsi (aCons (dVar 2) (aCons (dC (.ty "tuple")) aNil))))) (dTest (dCall F_has_truth 1 (aCons (dVar 2) aNil)))) (dRet (dC (.bl false))) dNx)
    (dSeq (dIfS (dTest (dOp kEq (dVar 0) (dC (.str (Str.mk #[106, 111, 105, 110, 101, 100]))))) (dSeq (dIfS (dOr (dTest (dOp kNe (dB kLen (aCons (dVar 2) aNil)) (dC (.int 1)))) (dOr (dNot (dTest (dCall F_is_book 1 (aCons (dOp kIxU (dVar 2) (dC (.int 0))) aNil)))) (dTest (dOp kGt (dB kMax (aCons (dOp kIxU (dVar 2) (dC (.int 0))) aNil)) (dOp kFdivW (dC c_GREATEST) (dC (.int 2))))))) (dRet (dC (.bl false))) dNx)
    (dRet (dChain kLe kLe (dC (.int 1)) (dB kSumA (aCons (dOp kIxU (dVar 2) (dC (.int 0))) aNil)) (dB kSumA (aCons (dVar 1) aNil))))) dNx)
    (dRet (dOp kIn (dVar 2) (dCall F_cases 2 (aCons (dVar 0) (aCons (dVar 1) aNil)))))))

def D_breaks (F_look_rule : Fn) (F_look_promise : Fn) (F_fits_case : Fn) (F_is_book : Fn) (F_is_broken : Fn) : Fn := fnD 4
    (dSeq (dExpr (dCall F_look_rule 1 (aCons (dVar 0) aNil)))
    (dSeq (dExpr (dCall F_look_promise 1 (aCons (dVar 1) aNil)))
    (dSeq (dIfS (dOr (dNot (dTest (dCall F_is_book 1 (aCons (dVar 2) aNil)))) (dOr (dTest (dOp kGt (dB kMax (aCons (dVar 2) aNil)) (dOp kFdivW (dC c_GREATEST) (dC (.int 2))))) (dNot (dTest (dCall F_fits_case 3 (aCons (dVar 1) (aCons (dVar 2) (aCons (dVar 3) aNil)))))))) (dRet (dC (.bl false))) dNx)
    (dRet (dCall F_is_broken 4 (aCons (dVar 0) (aCons (dVar 1) (aCons (dVar 2) (aCons (dVar 3) aNil)))))))))

def all_books : Fn := D_all_books
def is_first_for_all : Fn := D_is_first_for_all ahead_in
def look_promise : Fn := D_look_promise
def pairs : Fn := D_pairs
def lesser_books : Fn := D_lesser_books all_books
def cases : Fn := D_cases pairs lesser_books
def is_parted : Fn := D_is_parted outcome plus
def is_left : Fn := D_is_left outcome
def is_broken : Fn := D_is_broken outcome renamed row_of is_first_for_all lifted is_parted duel_winner plus turned is_left
def has_truth : Nat → Fn
  | 0 => noF
  | d + 1 => D_has_truth (has_truth d)
def fits_case : Fn := D_fits_case (has_truth 5) is_book cases
def breaks : Fn := D_breaks look_rule look_promise fits_case is_book is_broken
def D_plain_points : Fn := fnD 4
    (dSeq (dSet 1 (dComp [2] (dIt (dVar 0)) (.nm 2) dYes (dOp kSub (dVar 2) (dB kMin (aCons (dVar 0) aNil)))))
    (dSeq (dSet 3 (dOp kIxU (dVar 1) (dC (.int 0))))
    (dSeq (dForC [1, 3] (dIt (dSl (dVar 1) (oSome (dC (.int 1))) oNone)) (.nm 2) (whileD (dTest (dOp kNe (dVar 2) (dC (.int 0)))) (dAsgT (.tp [3, 2]) (dTup (aCons (dVar 2) (aCons (dOp kMod (dVar 3) (dVar 2)) aNil)))) 100))
    (dRet (dB kTuple (aCons (dComp [2] (dIt (dVar 1)) (.nm 2) dYes (dIf (dTest (dOp kGt (dVar 3) (dC (.int 0)))) (dOp kFdivW (dVar 2) (dVar 3)) (dVar 2))) aNil))))))

def D__law_points (F__law_pick : Fn) : Fn := fnD 4
    (dSeq (dSet 1 (dB kTuple (aCons (dComp [2] (dRng1 (aCons (dC (.int 3)) aNil)) (.nm 2) dYes (dCall F__law_pick 3 (aCons (dVar 0) (aCons (dVar 2) (aCons (dC (.int 10)) aNil))))) aNil)))
    (dSeq (dIfS (dTest (dOp kGt (dCall F__law_pick 3 (aCons (dVar 0) (aCons (dC (.int 3)) (aCons (dC (.int 3)) aNil)))) (dC (.int 0)))) (dSet 1 (dB kTuple (aCons (dRev (dB kSortA (aCons (dVar 1) aNil))) aNil))) dNx)
    (dSeq (dIfS (dTest (dOp kEq (dCall F__law_pick 3 (aCons (dVar 0) (aCons (dC (.int 4)) (aCons (dC (.int 4)) aNil)))) (dC (.int 0)))) (dSeq (dSet 3 (dCall F__law_pick 3 (aCons (dVar 0) (aCons (dC (.int 5)) (aCons (dC (.int 5)) aNil)))))
    (dSet 1 (dTup (aCons (dOp kAdd (dOp kMul (dC (.int 2)) (dVar 3)) (dC (.int 1))) (aCons (dOp kAdd (dVar 3) (dC (.int 1))) (aCons (dC (.int 1)) aNil)))))) dNx)
    (dRet (dVar 1)))))

def plain_points : Fn := D_plain_points
def _law_points (ns : List Int) : Fn := D__law_points (_law_pick ns)
def D_are_rows : Fn := fnD 4
    (dSeq (dIfS (dOr (dNot (dTest (dB kIsi (aCons (dVar 0) (aCons (dC (.ty "tuple")) aNil))))) (dNot (dTest (dB kAll (aCons (dComp [1] (dIt (dVar 0)) (.nm 1) dYes (dAndV (dB kIsi (aCons (dVar 1) (aCons (dC (.ty "tuple")) aNil))) (dOp kNe (dVar 1) (dTup aNil)))) aNil))))) (dRet (dC (.bl false))) dNx)
    (dSeq (dSet 2 (dLst aNil))
    (dSeq (dForC [2] (dIt (dVar 0)) (.nm 1) (dSeq (dIfS (dOr (dNot (dTest (dB kAll (aCons (dComp [3] (dIt (dVar 1)) (.nm 3) dYes (dAndV (dB kIsi (aCons (dVar 3) (aCons (dC (.ty "int")) aNil))) (dNotV (dB kIsi (aCons (dVar 3) (aCons (dC (.ty "bool")) aNil)))))) aNil)))) (dTest (dOp kNe (dB kList (aCons (dVar 1) aNil)) (dB kSortA (aCons (dVar 1) aNil))))) (dRet (dC (.bl false))) dNx)
    (dExpr (dM "list" kExtend (dVar 2) (aCons (dVar 1) aNil)))))
    (dRet (dOp kEq (dB kSortA (aCons (dVar 2) aNil)) (dB kList (aCons (dC c_THINGS) aNil)))))))

def D_look_rows (F_are_rows : Fn) : Fn := fnD 1
    (dIfS (dNot (dTest (dCall F_are_rows 1 (aCons (dVar 0) aNil)))) dNo dNx)

def D_parted_rows : Fn := fnD 7
    (dSeq (dSet 2 (dLst aNil))
    (dSeq (dForC [1, 2] (dIt (dVar 0)) (.nm 3) (dForC [1, 2, 3] (dIt (dVar 1)) (.nm 4) (dSeq (dSet 5 (dB kTuple (aCons (dComp [6] (dIt (dVar 3)) (.nm 6) (dTest (dOp kIn (dVar 6) (dVar 4))) (dVar 6)) aNil)))
    (dIfS (dTest (dOp kNe (dVar 5) (dTup aNil))) (dExpr (dM "list" kAppend (dVar 2) (aCons (dVar 5) aNil))) dNx))))
    (dRet (dB kTuple (aCons (dVar 2) aNil)))))

def D_rows_then (F_look_rows : Fn) (F_parted_rows : Fn) : Fn := fnD 2
    (dSeq (dExpr (dCall F_look_rows 1 (aCons (dVar 0) aNil)))
    (dSeq (dExpr (dCall F_look_rows 1 (aCons (dVar 1) aNil)))
    (dRet (dCall F_parted_rows 2 (aCons (dVar 0) (aCons (dVar 1) aNil))))))

def D_rows_back (F_look_rows : Fn) : Fn := fnD 1
    (dSeq (dExpr (dCall F_look_rows 1 (aCons (dVar 0) aNil)))
    (dRet (dRev (dVar 0))))

def D_wishes_of (F_look_rows : Fn) (F_row_of : Fn) : Fn := fnD 6
    (dSeq (dExpr (dCall F_look_rows 1 (aCons (dVar 0) aNil)))
    (dSeq (dSet 1 (dLst aNil))
    (dSeq (dForC [0, 1] (dEnum (aCons (dC c_WISHES) aNil)) (.tp [2, 3]) (dSeq (dSet 4 (dComp [5] (dIt (dVar 3)) (.nm 5) dYes (dCall F_row_of 2 (aCons (dVar 0) (aCons (dVar 5) aNil)))))
    (dIfS (dTest (dOp kEq (dVar 4) (dB kSortA (aCons (dVar 4) aNil)))) (dExpr (dM "list" kAppend (dVar 1) (aCons (dVar 2) aNil))) dNx)))
    (dRet (dVar 1)))))

def D_all_rows : Fn := fnD 8
    (dSeq (dSet 0 (dLst aNil))
    (dSeq (dForC [0] (dIt (dC c_WISHES)) (.nm 1) (dSeq (dAsgT (.tp [2, 3, 4]) (dComp [5] (dIt (dVar 1)) (.nm 5) dYes (dTup (aCons (dVar 5) aNil))))
    (dSeq (dPar [6, 7] (aCons (dB kTuple (aCons (dB kSortA (aCons (dOp kAdd (dVar 2) (dVar 3)) aNil)) aNil)) (aCons (dB kTuple (aCons (dB kSortA (aCons (dOp kAdd (dVar 3) (dVar 4)) aNil)) aNil)) aNil)))
    (dExpr (dM "list" kExtend (dVar 0) (aCons (dLst (aCons (dTup (aCons (dVar 2) (aCons (dVar 3) (aCons (dVar 4) aNil)))) (aCons (dTup (aCons (dVar 6) (aCons (dVar 4) aNil))) (aCons (dTup (aCons (dVar 2) (aCons (dVar 7) aNil))) aNil)))) aNil))))))
    (dRet (dB kSortU (aCons (dOp kAdd (dVar 0) (dLst (aCons (dTup (aCons (dTup (aCons (dC (.int 0)) (aCons (dC (.int 1)) (aCons (dC (.int 2)) aNil)))) aNil)) aNil))) aNil)))))

def D__law_all_rows : Fn := fnD 4
    (dSeq (dSet 0 (dLst (aCons (dTup (aCons (dTup (aCons (dC (.int 0)) (aCons (dC (.int 1)) (aCons (dC (.int 2)) aNil)))) aNil)) aNil)))
    (dSeq (dForC [0] (dRng1 (aCons (dC (.int 3)) aNil)) (.nm 1) (dSeq (dSet 2 (dB kTuple (aCons (dComp [3] (dRng1 (aCons (dC (.int 3)) aNil)) (.nm 3) (dTest (dOp kNe (dVar 3) (dVar 1))) (dVar 3)) aNil)))
    (dExpr (dM "list" kExtend (dVar 0) (aCons (dLst (aCons (dTup (aCons (dTup (aCons (dVar 1) aNil)) (aCons (dVar 2) aNil))) (aCons (dTup (aCons (dVar 2) (aCons (dTup (aCons (dVar 1) aNil)) aNil))) (aCons (dTup (aCons (dTup (aCons (dVar 1) aNil)) (aCons (dSl (dVar 2) oNone (oSome (dC (.int 1)))) (aCons (dSl (dVar 2) (oSome (dC (.int 1))) oNone) aNil)))) (aCons (dTup (aCons (dTup (aCons (dVar 1) aNil)) (aCons (dSl (dVar 2) (oSome (dC (.int 1))) oNone) (aCons (dSl (dVar 2) oNone (oSome (dC (.int 1)))) aNil)))) aNil))))) aNil)))))
    (dRet (dB kSortA (aCons (dVar 0) aNil)))))

def are_rows : Fn := D_are_rows
def look_rows : Fn := D_look_rows are_rows
def parted_rows : Fn := D_parted_rows
def rows_then : Fn := D_rows_then look_rows parted_rows
def rows_back : Fn := D_rows_back look_rows
def wishes_of : Fn := D_wishes_of look_rows row_of
def all_rows : Fn := D_all_rows
def _law_all_rows : Fn := D__law_all_rows
def D__law_spoilt : Fn := fnD 7
    (dSeq (dSet 3 (dOp kMod (dVar 1) (dOp kAdd (dB kLen (aCons (dVar 0) aNil)) (dC (.int 1)))))
    (dSeq (dSet 4 (dOp kIxU (dVar 2) (dOp kMod (dOp kFdivW (dVar 1) (dC (.int 1000))) (dB kLen (aCons (dVar 2) aNil)))))
    (dSeq (dSet 5 (dOp kAdd (dOp kAdd (dVar 3) (dC (.int 1))) (dOp kMod (dOp kFdivW (dVar 1) (dC (.int 7))) (dC (.int 9)))))
    (dSeq (dSet 6 (dOp kMod (dOp kFdivW (dVar 1) (dC (.int 100000))) (dC (.int 8))))
    (dSeq (dIfS (dTest (dOp kLt (dVar 6) (dC (.int 2)))) (dRet (dOp kAdd (dOp kAdd (dSl (dVar 0) oNone (oSome (dVar 3))) (dVar 4)) (dSl (dVar 0) (oSome (dVar 3)) oNone))) dNx)
    (dSeq (dIfS (dTest (dOp kEq (dVar 6) (dC (.int 2)))) (dRet (dOp kAdd (dSl (dVar 0) oNone (oSome (dVar 3))) (dSl (dVar 0) (oSome (dOp kAdd (dVar 3) (dC (.int 1)))) oNone))) dNx)
    (dSeq (dIfS (dTest (dOp kLt (dVar 6) (dC (.int 5)))) (dRet (dOp kAdd (dOp kAdd (dSl (dVar 0) oNone (oSome (dVar 3))) (dVar 4)) (dSl (dVar 0) (oSome (dOp kAdd (dVar 3) (dC (.int 1)))) oNone))) dNx)
    (dSeq (dIfS (dTest (dOp kEq (dVar 6) (dC (.int 5)))) (dRet (dOp kAdd (dSl (dVar 0) oNone (oSome (dVar 3))) (dSl (dVar 0) (oSome (dVar 5)) oNone))) dNx)
    (dSeq (dIfS (dTest (dOp kEq (dVar 6) (dC (.int 6)))) (dRet (dOp kAdd (dSl (dVar 0) oNone (oSome (dVar 5))) (dSl (dVar 0) (oSome (dVar 3)) oNone))) dNx)
    (dRet (dOp kIxU (dLst (aCons (dOp kAdd (dVar 0) (dC (.str (Str.mk #[32])))) (aCons (dOp kAdd (dC (.str (Str.mk #[32]))) (dVar 0)) (aCons (dOp kAdd (dSl (dVar 0) (oSome (dVar 3)) oNone) (dSl (dVar 0) oNone (oSome (dVar 3)))) (aCons (dC (.str (Str.mk #[]))) (aCons (dOp kAdd (dVar 0) (dVar 0)) aNil)))))) (dOp kMod (dVar 1) (dC (.int 5))))))))))))))

def _law_spoilt : Fn := D__law_spoilt
def D_standings (F_look_book : Fn) : Fn := fnD 6
    (dSeq (dExpr (dCall F_look_book 1 (aCons (dVar 0) aNil)))
    (dSeq (dSet 1 (dLst aNil))
    (dSeq (dForC [0, 1] (dIt (dC c_THINGS)) (.nm 2) (dSeq (dSet 3 (dLst (aCons (dC (.int 0)) (aCons (dC (.int 0)) (aCons (dC (.int 0)) aNil)))))
    (dSeq (dForC [0, 1, 2, 3] (dZipS (aCons (dC c_WISHES) (aCons (dVar 0) aNil))) (.tp [4, 5]) (dPutK kPut (dVar 3) (dM2 "tuple" kIndexT "list" kIndexL (dVar 4) (aCons (dVar 2) aNil)) (dOp kAdd (dOp kIxU (dVar 3) (dM2 "tuple" kIndexT "list" kIndexL (dVar 4) (aCons (dVar 2) aNil))) (dVar 5))))
    (dExpr (dM "list" kAppend (dVar 1) (aCons (dB kTuple (aCons (dVar 3) aNil)) aNil))))))
    (dRet (dB kTuple (aCons (dVar 1) aNil))))))

def D_scores (F_is_rule : Fn) (F_standings : Fn) : Fn := fnD 5
    (dSeq (dIfS (dNot (dTest (dCall F_is_rule 1 (aCons (dTup (aCons (dC (.str (Str.mk #[112, 111, 105, 110, 116, 115]))) (aCons (dVar 0) aNil))) aNil)))) dNo dNx)
    (dRet (dB kTuple (aCons (dComp [4] (dIt (dCall F_standings 1 (aCons (dVar 1) aNil))) (.nm 4) dYes (dB kSumA (aCons (dComp [2, 3] (dZipS (aCons (dVar 4) (aCons (dVar 0) aNil))) (.tp [2, 3]) dYes (dOp kMul (dVar 2) (dVar 3))) aNil))) aNil))))

def standings : Fn := D_standings look_book
def scores : Fn := D_scores is_rule standings
def D_look_rules (F_look_rule : Fn) : Fn := fnD 2
    (dForC [] (dIt (dVar 0)) (.nm 1) (dExpr (dCall F_look_rule 1 (aCons (dVar 1) aNil))))

def D_same_rows (F_look_rules : Fn) (F_look_book : Fn) (F_outcome : Fn) : Fn := fnD 7
    (dSeq (dExpr (dCall F_look_rules 1 (aCons (dVar 0) aNil)))
    (dSeq (dExpr (dCall F_look_book 1 (aCons (dVar 1) aNil)))
    (dSeq (dSet 2 (dComp [3] (dIt (dVar 0)) (.nm 3) dYes (dCall F_outcome 2 (aCons (dVar 3) (aCons (dVar 1) aNil)))))
    (dSeq (dSet 4 (dComp [5] (dRng1 (aCons (dB kLen (aCons (dVar 2) aNil)) aNil)) (.nm 5) (dTest (dOp kNotIn (dOp kIxU (dVar 2) (dVar 5)) (dSl (dVar 2) oNone (oSome (dVar 5))))) (dVar 5)))
    (dRet (dComp [6] (dIt (dVar 4)) (.nm 6) dYes (dComp [5] (dRng1 (aCons (dB kLen (aCons (dVar 2) aNil)) aNil)) (.nm 5) (dTest (dOp kEq (dOp kIxU (dVar 2) (dVar 5)) (dOp kIxU (dVar 2) (dVar 6)))) (dVar 5))))))))

def D_ever_first (F_look_rules : Fn) (F_look_book : Fn) (F_outcome : Fn) : Fn := fnD 4
    (dSeq (dExpr (dCall F_look_rules 1 (aCons (dVar 0) aNil)))
    (dSeq (dExpr (dCall F_look_book 1 (aCons (dVar 1) aNil)))
    (dSeq (dSet 2 (dLst aNil))
    (dSeq (dForC [1, 2] (dIt (dVar 0)) (.nm 3) (dExpr (dM "list" kExtend (dVar 2) (aCons (dB kList (aCons (dOp kIxU (dCall F_outcome 2 (aCons (dVar 3) (aCons (dVar 1) aNil))) (dC (.int 0))) aNil)) aNil))))
    (dRet (dB kSortU (aCons (dVar 2) aNil)))))))

def D_always_first (F_look_rules : Fn) (F_look_book : Fn) (F_outcome : Fn) : Fn := fnD 6
    (dSeq (dExpr (dCall F_look_rules 1 (aCons (dVar 0) aNil)))
    (dSeq (dExpr (dCall F_look_book 1 (aCons (dVar 1) aNil)))
    (dSeq (dSet 2 (dComp [3] (dIt (dVar 0)) (.nm 3) dYes (dOp kIxU (dCall F_outcome 2 (aCons (dVar 3) (aCons (dVar 1) aNil))) (dC (.int 0)))))
    (dRet (dComp [4] (dIt (dC c_THINGS)) (.nm 4) (dTest (dB kAll (aCons (dComp [5] (dIt (dVar 2)) (.nm 5) dYes (dOp kIn (dVar 4) (dVar 5))) aNil))) (dVar 4))))))

def look_rules : Fn := D_look_rules look_rule
def same_rows : Fn := D_same_rows look_rules look_book outcome
def ever_first : Fn := D_ever_first look_rules look_book outcome
def always_first : Fn := D_always_first look_rules look_book outcome
def D__law_promises : Fn := fnD 0
    (dRet (dLst (aCons (dC (.str (Str.mk #[110, 97, 109, 101, 115]))) (aCons (dC (.str (Str.mk #[97, 108, 108]))) (aCons (dC (.str (Str.mk #[108, 105, 102, 116, 101, 100]))) (aCons (dC (.str (Str.mk #[106, 111, 105, 110, 101, 100]))) (aCons (dC (.str (Str.mk #[100, 117, 101, 108, 115]))) (aCons (dC (.str (Str.mk #[116, 119, 105, 99, 101]))) (aCons (dC (.str (Str.mk #[116, 117, 114, 110, 101, 100]))) (aCons (dC (.str (Str.mk #[115, 116, 97, 121, 115, 32, 97, 119, 97, 121]))) aNil))))))))))

def D__law_books : Fn := fnD 8
    (dSeq (dSet 1 (dLst aNil))
    (dSeq (dForC [0, 1] (dRng1 (aCons (dOp kAdd (dVar 0) (dC (.int 1))) aNil)) (.nm 2) (dForC [0, 1, 2] (dRng1 (aCons (dOp kAdd (dOp kSub (dVar 0) (dVar 2)) (dC (.int 1))) aNil)) (.nm 3) (dForC [0, 1, 2, 3] (dRng1 (aCons (dOp kAdd (dOp kSub (dOp kSub (dVar 0) (dVar 2)) (dVar 3)) (dC (.int 1))) aNil)) (.nm 4) (dForC [0, 1, 2, 3, 4] (dRng1 (aCons (dOp kAdd (dOp kSub (dOp kSub (dOp kSub (dVar 0) (dVar 2)) (dVar 3)) (dVar 4)) (dC (.int 1))) aNil)) (.nm 5) (dSeq (dSet 6 (dOp kSub (dOp kSub (dOp kSub (dOp kSub (dVar 0) (dVar 2)) (dVar 3)) (dVar 4)) (dVar 5)))
    (dExpr (dM "list" kExtend (dVar 1) (aCons (dComp [7] (dRng1 (aCons (dOp kAdd (dVar 6) (dC (.int 1))) aNil)) (.nm 7) dYes (dTup (aCons (dVar 2) (aCons (dVar 3) (aCons (dVar 4) (aCons (dVar 5) (aCons (dVar 7) (aCons (dOp kSub (dVar 6) (dVar 7)) aNil)))))))) aNil))))))))
    (dRet (dVar 1))))

def D__law_cases (F__law_wishes : Fn) (F__law_books : Fn) : Fn := fnD 9
    (dSeq (dSet 2 (dCall0 F__law_wishes))
    (dSeq (dIfS (dTest (dOp kEq (dVar 0) (dC (.str (Str.mk #[110, 97, 109, 101, 115]))))) (dRet (dComp [3] (dIt (dVar 2)) (.nm 3) dYes (dTup (aCons (dVar 3) aNil)))) dNx)
    (dSeq (dIfS (dTest (dOp kEq (dVar 0) (dC (.str (Str.mk #[97, 108, 108]))))) (dRet (dLst (aCons (dTup (aCons (dC (.int 0)) (aCons (dC (.int 1)) aNil))) (aCons (dTup (aCons (dC (.int 0)) (aCons (dC (.int 2)) aNil))) (aCons (dTup (aCons (dC (.int 1)) (aCons (dC (.int 0)) aNil))) (aCons (dTup (aCons (dC (.int 1)) (aCons (dC (.int 2)) aNil))) (aCons (dTup (aCons (dC (.int 2)) (aCons (dC (.int 0)) aNil))) (aCons (dTup (aCons (dC (.int 2)) (aCons (dC (.int 1)) aNil))) aNil)))))))) dNx)
    (dSeq (dIfS (dTest (dOp kEq (dVar 0) (dC (.str (Str.mk #[108, 105, 102, 116, 101, 100]))))) (dSeq (dSet 4 (dLst aNil))
    (dSeq (dForC [1, 2, 4] (dRng1 (aCons (dC (.int 6)) aNil)) (.nm 5) (dIfS (dTest (dOp kGt (dOp kIxU (dVar 1) (dVar 5)) (dC (.int 0)))) (dExpr (dM "list" kExtend (dVar 4) (aCons (dComp [6] (dRng1 (aCons (dC (.int 3)) aNil)) (.nm 6) (dTest (dOp kNe (dOp kIxU (dOp kIxU (dVar 2) (dVar 5)) (dC (.int 0))) (dVar 6))) (dTup (aCons (dVar 5) (aCons (dVar 6) aNil)))) aNil))) dNx))
    (dRet (dVar 4)))) dNx)
    (dSeq (dIfS (dTest (dOp kEq (dVar 0) (dC (.str (Str.mk #[106, 111, 105, 110, 101, 100]))))) (dSeq (dSet 4 (dLst aNil))
    (dSeq (dForC [4] (dRng2 (aCons (dC (.int 1)) (aCons (dOp kAdd (dB kSumA (aCons (dVar 1) aNil)) (dC (.int 1))) aNil))) (.nm 7) (dExpr (dM "list" kExtend (dVar 4) (aCons (dComp [8] (dIt (dCall F__law_books 1 (aCons (dVar 7) aNil))) (.nm 8) dYes (dTup (aCons (dVar 8) aNil))) aNil))))
    (dRet (dVar 4)))) dNx)
    (dRet (dIf (dTest (dOp kEq (dVar 0) (dC (.str (Str.mk #[115, 116, 97, 121, 115, 32, 97, 119, 97, 121]))))) (dComp [5] (dRng1 (aCons (dC (.int 6)) aNil)) (.nm 5) dYes (dTup (aCons (dVar 5) (aCons (dOp kIxU (dOp kIxU (dVar 2) (dVar 5)) (dC (.int 0))) aNil)))) (dLst (aCons (dTup aNil) aNil)))))))))

def D__law_first (F__law_rows : Fn) : Fn := fnD 2
    (dRet (dOp kIxU (dCall F__law_rows 3 (aCons (dVar 0) (aCons (dVar 1) (aCons (dLst (aCons (dC (.int 0)) (aCons (dC (.int 1)) (aCons (dC (.int 2)) aNil)))) aNil)))) (dC (.int 0))))

def D__law_with : Fn := fnD 3
    (dRet (dOp kAdd (dOp kAdd (dSl (dVar 0) oNone (oSome (dVar 1))) (dTup (aCons (dOp kAdd (dOp kIxU (dVar 0) (dVar 1)) (dVar 2)) aNil))) (dSl (dVar 0) (oSome (dOp kAdd (dVar 1) (dC (.int 1)))) oNone)))

def D__law_breaks (F__law_rows : Fn) (F__law_wishes : Fn) (F__law_place : Fn) (F__law_more : Fn) (F__law_first : Fn) (F__law_with : Fn) : Fn := fnD 23
    (dSeq (dSet 4 (dCall F__law_rows 3 (aCons (dVar 0) (aCons (dVar 2) (aCons (dLst (aCons (dC (.int 0)) (aCons (dC (.int 1)) (aCons (dC (.int 2)) aNil)))) aNil)))))
    (dSeq (dSet 5 (dCall0 F__law_wishes))
    (dSeq (dIfS (dTest (dOp kEq (dVar 1) (dC (.str (Str.mk #[110, 97, 109, 101, 115]))))) (dSeq (dSet 6 (dComp [8] (dIt (dVar 5)) (.nm 8) dYes (dB kTuple (aCons (dComp [7] (dIt (dVar 8)) (.nm 7) dYes (dM2 "tuple" kIndexT "list" kIndexL (dOp kIxU (dVar 3) (dC (.int 0))) (aCons (dVar 7) aNil))) aNil))))
    (dSeq (dSet 9 (dB kTuple (aCons (dComp [8] (dIt (dVar 6)) (.nm 8) dYes (dOp kIxU (dVar 2) (dM2 "tuple" kIndexT "list" kIndexL (dVar 5) (aCons (dVar 8) aNil)))) aNil)))
    (dRet (dOp kNe (dCall F__law_rows 3 (aCons (dVar 0) (aCons (dVar 9) (aCons (dLst (aCons (dC (.int 0)) (aCons (dC (.int 1)) (aCons (dC (.int 2)) aNil)))) aNil)))) (dComp [11] (dIt (dVar 4)) (.nm 11) dYes (dB kTuple (aCons (dB kSortA (aCons (dComp [10] (dIt (dVar 11)) (.nm 10) dYes (dOp kIxU (dOp kIxU (dVar 3) (dC (.int 0))) (dVar 10))) aNil)) aNil))))))) dNx)
    (dSeq (dIfS (dTest (dOp kEq (dVar 1) (dC (.str (Str.mk #[97, 108, 108]))))) (dSeq (dSet 12 (dComp [8, 13] (dZipS (aCons (dVar 5) (aCons (dVar 2) aNil))) (.tp [8, 13]) (dTest (dOp kLt (dM2 "tuple" kIndexT "list" kIndexL (dVar 8) (aCons (dOp kIxU (dVar 3) (dC (.int 0))) aNil)) (dM2 "tuple" kIndexT "list" kIndexL (dVar 8) (aCons (dOp kIxU (dVar 3) (dC (.int 1))) aNil)))) (dVar 13)))
    (dSeq (dSet 14 (dAndV (dOp kGt (dB kSumA (aCons (dVar 2) aNil)) (dC (.int 0))) (dOp kEq (dB kSumA (aCons (dVar 12) aNil)) (dB kSumA (aCons (dVar 2) aNil)))))
    (dRet (dAndV (dVar 14) (dNotV (dOp kLt (dCall F__law_place 2 (aCons (dVar 4) (aCons (dOp kIxU (dVar 3) (dC (.int 0))) aNil))) (dCall F__law_place 2 (aCons (dVar 4) (aCons (dOp kIxU (dVar 3) (dC (.int 1))) aNil))))))))) dNx)
    (dSeq (dIfS (dTest (dOp kEq (dVar 1) (dC (.str (Str.mk #[100, 117, 101, 108, 115]))))) (dSeq (dSet 15 (dComp [16] (dRng1 (aCons (dC (.int 3)) aNil)) (.nm 16) (dTest (dOp kGt (dB kMin (aCons (dComp [17] (dRng1 (aCons (dC (.int 3)) aNil)) (.nm 17) (dTest (dOp kNe (dVar 17) (dVar 16))) (dCall F__law_more 3 (aCons (dVar 2) (aCons (dVar 16) (aCons (dVar 17) aNil))))) aNil)) (dC (.int 0)))) (dVar 16)))
    (dRet (dAndV (dOp kNe (dVar 15) (dLst aNil)) (dOp kNe (dOp kIxU (dVar 4) (dC (.int 0))) (dB kTuple (aCons (dVar 15) aNil)))))) dNx)
    (dSeq (dIfS (dTest (dOp kEq (dVar 1) (dC (.str (Str.mk #[106, 111, 105, 110, 101, 100]))))) (dSeq (dSet 18 (dComp [7] (dIt (dOp kIxU (dVar 4) (dC (.int 0)))) (.nm 7) (dTest (dOp kIn (dVar 7) (dCall F__law_first 2 (aCons (dVar 0) (aCons (dOp kIxU (dVar 3) (dC (.int 0))) aNil))))) (dVar 7)))
    (dSeq (dSet 19 (dB kTuple (aCons (dComp [20, 21] (dZipS (aCons (dVar 2) (aCons (dOp kIxU (dVar 3) (dC (.int 0))) aNil))) (.tp [20, 21]) dYes (dOp kAdd (dVar 20) (dVar 21))) aNil)))
    (dRet (dAndV (dOp kNe (dVar 18) (dLst aNil)) (dOp kNe (dCall F__law_first 2 (aCons (dVar 0) (aCons (dVar 19) aNil))) (dB kTuple (aCons (dVar 18) aNil))))))) dNx)
    (dSeq (dIfS (dTest (dOp kIn (dVar 1) (dTup (aCons (dC (.str (Str.mk #[116, 119, 105, 99, 101]))) (aCons (dC (.str (Str.mk #[116, 117, 114, 110, 101, 100]))) aNil))))) (dSeq (dSet 9 (dB kTuple (aCons (dComp [13] (dIt (dVar 2)) (.nm 13) dYes (dOp kMul (dC (.int 2)) (dVar 13))) aNil)))
    (dSeq (dIfS (dTest (dOp kEq (dVar 1) (dC (.str (Str.mk #[116, 117, 114, 110, 101, 100]))))) (dSet 9 (dB kTuple (aCons (dComp [8] (dIt (dVar 5)) (.nm 8) dYes (dOp kIxU (dVar 2) (dM2 "tuple" kIndexT "list" kIndexL (dVar 5) (aCons (dRev (dVar 8)) aNil)))) aNil))) dNx)
    (dRet (dOp kNe (dCall F__law_rows 3 (aCons (dVar 0) (aCons (dVar 9) (aCons (dLst (aCons (dC (.int 0)) (aCons (dC (.int 1)) (aCons (dC (.int 2)) aNil)))) aNil)))) (dIf (dTest (dOp kEq (dVar 1) (dC (.str (Str.mk #[116, 119, 105, 99, 101]))))) (dVar 4) (dRev (dVar 4))))))) dNx)
    (dSeq (dSet 9 (dCall F__law_with 3 (aCons (dVar 2) (aCons (dOp kIxU (dVar 3) (dC (.int 0))) (aCons (dC (.int 1)) aNil)))))
    (dSeq (dIfS (dTest (dOp kEq (dVar 1) (dC (.str (Str.mk #[108, 105, 102, 116, 101, 100]))))) (dSeq (dSet 8 (dB kList (aCons (dOp kIxU (dVar 5) (dOp kIxU (dVar 3) (dC (.int 0)))) aNil)))
    (dSeq (dSet 22 (dM2 "tuple" kIndexT "list" kIndexL (dVar 8) (aCons (dOp kIxU (dVar 3) (dC (.int 1))) aNil)))
    (dSeq (dPut2 (dVar 8) (dOp kSub (dVar 22) (dC (.int 1))) (dVar 8) (dVar 22) (aCons (dOp kIxU (dVar 8) (dVar 22)) (aCons (dOp kIxU (dVar 8) (dOp kSub (dVar 22) (dC (.int 1)))) aNil)))
    (dSet 9 (dCall F__law_with 3 (aCons (dCall F__law_with 3 (aCons (dVar 2) (aCons (dOp kIxU (dVar 3) (dC (.int 0))) (aCons (dNeg (dC (.int 1))) aNil)))) (aCons (dM2 "tuple" kIndexT "list" kIndexL (dVar 5) (aCons (dB kTuple (aCons (dVar 8) aNil)) aNil)) (aCons (dC (.int 1)) aNil)))))))) dNx)
    (dRet (dAndV (dOp kIn (dOp kIxU (dVar 3) (dC (.int 1))) (dOp kIxU (dVar 4) (dC (.int 0)))) (dOp kNotIn (dOp kIxU (dVar 3) (dC (.int 1))) (dCall F__law_first 2 (aCons (dVar 0) (aCons (dVar 9) aNil)))))))))))))))

def D__law_has_truth (F__law_has_truth : Fn) : Fn := fnD 2
    (dSeq (dIfS (dTest (dB kIsi (aCons (dVar 0) (aCons (dTup (aCons (dC (.ty "tuple")) (aCons (dC (.ty "list")) aNil))) aNil)))) (dRet (dOp kNe (dComp [1] (dIt (dVar 0)) (.nm 1) (dTest (dCall F__law_has_truth 1 (aCons (dVar 1) aNil))) (dVar 1)) (dLst aNil))) dNx)
    (dRet (dB kIsi (aCons (dVar 0) (aCons (dC (.ty "bool")) aNil)))))

def D__law_due (F__law_has_truth : Fn) (F__law_is_book : Fn) (F__law_breaks : Fn) (F__law_cases : Fn) : Fn := fnD 6
    (dSeq (dIfS (dOr (dNot (dTest (dCall F__law_is_book 1 (aCons (dVar 2) aNil)))) (dOr (dTest (dOp kGt (dB kMax (aCons (dVar 2) aNil)) (dC (.int 49)))) (dOr (dNot (dTest (dB kIsi (aCons (dVar 3) (aCons (dC (.ty "tuple")) aNil))))) (dTest (dCall F__law_has_truth 1 (aCons (dVar 3) aNil)))))) (dRet (dC (.bl false))) dNx)
    (dSeq (dIfS (dTest (dOp kEq (dVar 1) (dC (.str (Str.mk #[106, 111, 105, 110, 101, 100]))))) (dSeq (dIfS (dOr (dTest (dOp kNe (dB kLen (aCons (dVar 3) aNil)) (dC (.int 1)))) (dOr (dNot (dTest (dCall F__law_is_book 1 (aCons (dOp kIxU (dVar 3) (dC (.int 0))) aNil)))) (dNot (dTest (dChain kLe kLe (dC (.int 1)) (dB kSumA (aCons (dOp kIxU (dVar 3) (dC (.int 0))) aNil)) (dB kSumA (aCons (dVar 2) aNil))))))) (dRet (dC (.bl false))) dNx)
    (dSeq (dIfS (dTest (dOp kGt (dB kMax (aCons (dOp kIxU (dVar 3) (dC (.int 0))) aNil)) (dC (.int 49)))) (dRet (dC (.bl false))) dNx)
    (dRet (dCall F__law_breaks 4 (aCons (dVar 0) (aCons (dVar 1) (aCons (dVar 2) (aCons (dVar 3) aNil)))))))) dNx)
    (dSeq (dSet 4 (dOp kNe (dComp [5] (dIt (dCall F__law_cases 2 (aCons (dVar 1) (aCons (dVar 2) aNil)))) (.nm 5) (dTest (dOp kEq (dVar 5) (dVar 3))) (dVar 5)) (dLst aNil)))
    (dRet (dAndV (dVar 4) (dCall F__law_breaks 4 (aCons (dVar 0) (aCons (dVar 1) (aCons (dVar 2) (aCons (dVar 3) aNil))))))))))

def _law_promises : Fn := D__law_promises
def _law_books : Fn := D__law_books
def _law_cases : Fn := D__law_cases _law_wishes _law_books
def _law_first : Fn := D__law_first (_law_rows 5)
def _law_with : Fn := D__law_with
def _law_breaks : Fn := D__law_breaks (_law_rows 5) _law_wishes _law_place _law_more _law_first _law_with
def _law_has_truth : Nat → Fn
  | 0 => noF
  | d + 1 => D__law_has_truth (_law_has_truth d)
def _law_due : Fn := D__law_due (_law_has_truth 5) _law_is_book _law_breaks _law_cases
def D_first_break (F_look_rule : Fn) (F_look_promise : Fn) (F_all_books : Fn) (F_cases : Fn) (F_is_broken : Fn) : Fn := fnD 6
    (dSeq (dExpr (dCall F_look_rule 1 (aCons (dVar 0) aNil)))
    (dSeq (dExpr (dCall F_look_promise 1 (aCons (dVar 1) aNil)))
    (dSeq (dForC [0, 1] (dRng1 (aCons (dOp kAdd (dVar 2) (dC (.int 1))) aNil)) (.nm 3) (dForC [0, 1] (dIt (dCall F_all_books 1 (aCons (dVar 3) aNil))) (.nm 4) (dForC [0, 1, 4] (dIt (dCall F_cases 2 (aCons (dVar 1) (aCons (dVar 4) aNil)))) (.nm 5) (dIfS (dTest (dCall F_is_broken 4 (aCons (dVar 0) (aCons (dVar 1) (aCons (dVar 4) (aCons (dVar 5) aNil)))))) (dRet (dTup (aCons (dVar 4) (aCons (dVar 5) aNil)))) dNx))))
    (dRet (dC .non)))))

def D_keeps (F_first_break : Fn) : Fn := fnD 3
    (dRet (dOp kIs (dCall F_first_break 3 (aCons (dVar 0) (aCons (dVar 1) (aCons (dVar 2) aNil)))) (dC .non)))

def D_all_kept (F_keeps : Fn) : Fn := fnD 3
    (dRet (dComp [2] (dIt (dC c_PROMISES)) (.nm 2) (dTest (dCall F_keeps 3 (aCons (dVar 0) (aCons (dVar 2) (aCons (dVar 1) aNil))))) (dVar 2)))

def first_break : Fn := D_first_break look_rule look_promise all_books cases is_broken
def keeps : Fn := D_keeps first_break
def all_kept : Fn := D_all_kept keeps
def D__law_pick_v2 (ns : List Int) : Fn := fnD 7
    (dSeq (dSet 3 (dIf (dTest (dOp (kNeS ns) (dVar 0) (dLst aNil))) (dOp (kIxS ns) (dVar 0) (dOp kMod (dB kInt (aCons (dVar 1) aNil)) (dB (kLenS ns) (aCons (dVar 0) aNil)))) (dC (.int 0))))
    (dSeq (dPar [4, 5] (aCons (dOp kFdivW (dVar 3) (dOp kPow (dC (.int 10)) (dC (.int 18)))) (aCons (dOp kFdivW (dVar 1) (dB kMax (aCons (dB (kLenS ns) (aCons (dVar 0) aNil)) (aCons (dC (.int 1)) aNil)))) aNil)))
    (dSeq (whileD (dAnd (dTest (dOp kGt (dVar 4) (dC (.int 0)))) (dTest (dOp kGt (dVar 5) (dC (.int 0))))) (dPar [4, 5] (aCons (dOp kFdivW (dVar 4) (dC (.int 840))) (aCons (dOp kSub (dVar 5) (dC (.int 1))) aNil))) 100000)
    (dSeq (dIfS (dTest (dOp kGt (dVar 4) (dC (.int 0)))) (dRet (dOp kMod (dB kInt (aCons (dOp kMod (dB kInt (aCons (dVar 4) aNil)) (dC (.int 840))) aNil)) (dVar 2))) dNx)
    (dSeq (dSet 6 (dOp kMod (dB kInt (aCons (dOp kMul (dOp kAdd (dOp kMul (dVar 3) (dC (.int 31))) (dOp kMul (dC (.int 6151)) (dOp kAdd (dVar 1) (dC (.int 1))))) (dC (.int 40692))) aNil)) (dC (.int 2147483399))))
    (dRet (dOp kMod (dB kInt (aCons (dOp kMod (dB kInt (aCons (dOp kAdd (dOp kMul (dVar 6) (dVar 6)) (dOp kFdivW (dVar 6) (dC (.int 31)))) aNil)) (dC (.int 2147483629))) aNil)) (dVar 2))))))))

def _law_pick_v2 (ns : List Int) : Fn := D__law_pick_v2 ns
def D_least_book (F_look_rule : Fn) (F_look_rows : Fn) (F_all_books : Fn) (F_outcome : Fn) : Fn := fnD 5
    (dSeq (dExpr (dCall F_look_rule 1 (aCons (dVar 0) aNil)))
    (dSeq (dExpr (dCall F_look_rows 1 (aCons (dVar 1) aNil)))
    (dSeq (dForC [0, 1] (dRng1 (aCons (dOp kAdd (dVar 2) (dC (.int 1))) aNil)) (.nm 3) (dForC [0, 1] (dIt (dCall F_all_books 1 (aCons (dVar 3) aNil))) (.nm 4) (dIfS (dTest (dOp kEq (dCall F_outcome 2 (aCons (dVar 0) (aCons (dVar 4) aNil))) (dVar 1))) (dRet (dVar 4)) dNx)))
    (dRet (dC .non)))))

def D_all_outcomes (F_look_rule : Fn) (F_all_books : Fn) (F_outcome : Fn) : Fn := fnD 5
    (dSeq (dExpr (dCall F_look_rule 1 (aCons (dVar 0) aNil)))
    (dSeq (dSet 2 dNewD)
    (dSeq (dForC [0, 2] (dRng1 (aCons (dOp kAdd (dVar 1) (dC (.int 1))) aNil)) (.nm 3) (dForC [0, 2] (dIt (dCall F_all_books 1 (aCons (dVar 3) aNil))) (.nm 4) (dPutK kPutX (dVar 2) (dCall F_outcome 2 (aCons (dVar 0) (aCons (dVar 4) aNil))) (dC (.bl true)))))
    (dRet (dB kSortA (aCons (dB kList (aCons (dVar 2) aNil)) aNil))))))

def D_parting (F_look_rule : Fn) (F_all_books : Fn) (F_outcome : Fn) : Fn := fnD 5
    (dSeq (dExpr (dCall F_look_rule 1 (aCons (dVar 0) aNil)))
    (dSeq (dExpr (dCall F_look_rule 1 (aCons (dVar 1) aNil)))
    (dSeq (dForC [0, 1] (dRng1 (aCons (dOp kAdd (dVar 2) (dC (.int 1))) aNil)) (.nm 3) (dForC [0, 1] (dIt (dCall F_all_books 1 (aCons (dVar 3) aNil))) (.nm 4) (dIfS (dTest (dOp kNe (dCall F_outcome 2 (aCons (dVar 0) (aCons (dVar 4) aNil))) (dCall F_outcome 2 (aCons (dVar 1) (aCons (dVar 4) aNil))))) (dRet (dVar 4)) dNx)))
    (dRet (dC .non)))))

def D_are_alike (F_parting : Fn) : Fn := fnD 3
    (dRet (dOp kIs (dCall F_parting 3 (aCons (dVar 0) (aCons (dVar 1) (aCons (dVar 2) aNil)))) (dC .non)))

def D__law_all_rows_v2 (F__law_wishes : Fn) : Fn := fnD 5
    (dSeq (dSet 0 (dLst (aCons (dTup (aCons (dTup (aCons (dC (.int 0)) (aCons (dC (.int 1)) (aCons (dC (.int 2)) aNil)))) aNil)) aNil)))
    (dSeq (dForC [0] (dIt (dCall0 F__law_wishes)) (.nm 1) (dExpr (dM "list" kAppend (dVar 0) (aCons (dB kTuple (aCons (dComp [2] (dIt (dVar 1)) (.nm 2) dYes (dTup (aCons (dVar 2) aNil))) aNil)) aNil))))
    (dSeq (dForC [0] (dRng1 (aCons (dC (.int 3)) aNil)) (.nm 3) (dSeq (dSet 4 (dB kTuple (aCons (dComp [2] (dRng1 (aCons (dC (.int 3)) aNil)) (.nm 2) (dTest (dOp kNe (dVar 2) (dVar 3))) (dVar 2)) aNil)))
    (dExpr (dM "list" kExtend (dVar 0) (aCons (dLst (aCons (dTup (aCons (dTup (aCons (dVar 3) aNil)) (aCons (dVar 4) aNil))) (aCons (dTup (aCons (dVar 4) (aCons (dTup (aCons (dVar 3) aNil)) aNil))) aNil))) aNil)))))
    (dRet (dB kSortA (aCons (dVar 0) aNil))))))

def least_book : Fn := D_least_book look_rule look_rows all_books outcome
def all_outcomes : Fn := D_all_outcomes look_rule all_books outcome
def parting : Fn := D_parting look_rule all_books outcome
def are_alike : Fn := D_are_alike parting
def _law_all_rows_v2 : Fn := D__law_all_rows_v2 _law_wishes
def D_how_many_books : Fn := fnD 3
    (dSeq (dSet 1 (dC (.int 1)))
    (dSeq (dForC [0, 1] (dRng1 (aCons (dC (.int 5)) aNil)) (.nm 2) (dSet 1 (dOp kMul (dVar 1) (dOp kAdd (dOp kAdd (dVar 0) (dVar 2)) (dC (.int 1))))))
    (dRet (dOp kFdivW (dVar 1) (dC (.int 120))))))

def how_many_books : Fn := D_how_many_books
def D_swaps_of : Fn := fnD 4
    (dRet (dB kLen (aCons (dComp [2, 3] (dIt (dC c_COUPLES)) (.tp [2, 3]) (dTest (dOp kNe (dOp kLt (dM2 "tuple" kIndexT "list" kIndexL (dVar 0) (aCons (dVar 2) aNil)) (dM2 "tuple" kIndexT "list" kIndexL (dVar 0) (aCons (dVar 3) aNil))) (dOp kLt (dM2 "tuple" kIndexT "list" kIndexL (dVar 1) (aCons (dVar 2) aNil)) (dM2 "tuple" kIndexT "list" kIndexL (dVar 1) (aCons (dVar 3) aNil))))) (dC (.int 1))) aNil)))

def D_swaps (F_is_wish : Fn) (F_swaps_of : Fn) : Fn := fnD 2
    (dSeq (dIfS (dOr (dNot (dTest (dCall F_is_wish 1 (aCons (dVar 0) aNil)))) (dNot (dTest (dCall F_is_wish 1 (aCons (dVar 1) aNil))))) dNo dNx)
    (dRet (dCall F_swaps_of 2 (aCons (dVar 0) (aCons (dVar 1) aNil)))))

def D_far (F_look_book : Fn) (F_is_wish : Fn) (F_swaps_of : Fn) : Fn := fnD 4
    (dSeq (dExpr (dCall F_look_book 1 (aCons (dVar 0) aNil)))
    (dSeq (dIfS (dNot (dTest (dCall F_is_wish 1 (aCons (dVar 1) aNil)))) dNo dNx)
    (dRet (dB kSumA (aCons (dComp [2, 3] (dZipS (aCons (dC c_WISHES) (aCons (dVar 0) aNil))) (.tp [2, 3]) dYes (dOp kMul (dVar 3) (dCall F_swaps_of 2 (aCons (dVar 2) (aCons (dVar 1) aNil))))) aNil)))))

def D_nearest (F_look_book : Fn) (F_far : Fn) : Fn := fnD 4
    (dSeq (dExpr (dCall F_look_book 1 (aCons (dVar 0) aNil)))
    (dSeq (dSet 1 (dComp [2] (dIt (dC c_WISHES)) (.nm 2) dYes (dCall F_far 2 (aCons (dVar 0) (aCons (dVar 2) aNil)))))
    (dRet (dComp [3] (dRng1 (aCons (dC (.int 6)) aNil)) (.nm 3) (dTest (dOp kEq (dOp kIxU (dVar 1) (dVar 3)) (dB kMin (aCons (dVar 1) aNil)))) (dVar 3)))))

def D_margins (F_look_book : Fn) (F_more : Fn) : Fn := fnD 3
    (dSeq (dExpr (dCall F_look_book 1 (aCons (dVar 0) aNil)))
    (dRet (dB kTuple (aCons (dComp [1, 2] (dIt (dC c_COUPLES)) (.tp [1, 2]) dYes (dCall F_more 3 (aCons (dVar 0) (aCons (dVar 1) (aCons (dVar 2) aNil))))) aNil))))

def swaps_of : Fn := D_swaps_of
def swaps : Fn := D_swaps is_wish swaps_of
def far : Fn := D_far look_book is_wish swaps_of
def nearest : Fn := D_nearest look_book far
def margins : Fn := D_margins look_book more
def D_has_circle (F_margins : Fn) : Fn := fnD 4
    (dSeq (dAsgT (.tp [1, 2, 3]) (dCall F_margins 1 (aCons (dVar 0) aNil)))
    (dRet (dOrV (dAndV (dOp kGt (dVar 1) (dC (.int 0))) (dAndV (dOp kGt (dVar 3) (dC (.int 0))) (dOp kLt (dVar 2) (dC (.int 0))))) (dAndV (dOp kLt (dVar 1) (dC (.int 0))) (dAndV (dOp kLt (dVar 3) (dC (.int 0))) (dOp kGt (dVar 2) (dC (.int 0))))))))

def D_agreed (F_look_book : Fn) (F_is_first_for_all : Fn) : Fn := fnD 4
    (dSeq (dExpr (dCall F_look_book 1 (aCons (dVar 0) aNil)))
    (dSeq (dSet 1 (dLst aNil))
    (dSeq (dForC [0, 1] (dIt (dC c_THINGS)) (.nm 2) (dExpr (dM "list" kExtend (dVar 1) (aCons (dComp [3] (dIt (dC c_THINGS)) (.nm 3) (dAnd (dTest (dOp kNe (dVar 3) (dVar 2))) (dTest (dCall F_is_first_for_all 3 (aCons (dVar 0) (aCons (dVar 2) (aCons (dVar 3) aNil)))))) (dTup (aCons (dVar 2) (aCons (dVar 3) aNil)))) aNil))))
    (dRet (dVar 1)))))

def has_circle : Fn := D_has_circle margins
def agreed : Fn := D_agreed look_book is_first_for_all
def D_look_number (F_is_whole : Fn) : Fn := fnD 1
    (dIfS (dNot (dTest (dCall F_is_whole 3 (aCons (dVar 0) (aCons (dC (.int 0)) (aCons (dC (.int 5)) aNil)))))) dNo dNx)

def D_changed_to : Fn := fnD 4
    (dSeq (dSet 3 (dB kList (aCons (dVar 0) aNil)))
    (dSeq (dPutK kPut (dVar 3) (dVar 1) (dOp kSub (dOp kIxU (dVar 3) (dVar 1)) (dC (.int 1))))
    (dSeq (dPutK kPut (dVar 3) (dVar 2) (dOp kAdd (dOp kIxU (dVar 3) (dVar 2)) (dC (.int 1))))
    (dRet (dB kTuple (aCons (dVar 3) aNil))))))

def D_changed (F_look_book : Fn) (F_look_number : Fn) (F_changed_to : Fn) : Fn := fnD 4
    (dSeq (dExpr (dCall F_look_book 1 (aCons (dVar 0) aNil)))
    (dSeq (dExpr (dCall F_look_number 1 (aCons (dVar 1) aNil)))
    (dSeq (dExpr (dCall F_look_number 1 (aCons (dVar 2) aNil)))
    (dSeq (dIfS (dTest (dOp kEq (dOp kIxU (dVar 0) (dVar 1)) (dC (.int 0)))) dNo dNx)
    (dSeq (dSet 3 (dCall F_changed_to 3 (aCons (dVar 0) (aCons (dVar 1) (aCons (dVar 2) aNil)))))
    (dSeq (dExpr (dCall F_look_book 1 (aCons (dVar 3) aNil)))
    (dRet (dVar 3))))))))

def D_single : Fn := fnD 1
    (dRet (dIf (dTest (dOp kEq (dB kLen (aCons (dOp kIxU (dVar 0) (dC (.int 0))) aNil)) (dC (.int 1)))) (dOp kIxU (dOp kIxU (dVar 0) (dC (.int 0))) (dC (.int 0))) (dC .non)))

def D_nexts : Fn := fnD 3
    (dRet (dComp [2] (dRng1 (aCons (dC (.int 6)) aNil)) (.nm 2) (dAnd (dTest (dOp kNe (dVar 2) (dVar 1))) (dAnd (dTest (dOp kGt (dOp kIxU (dVar 0) (dVar 1)) (dC (.int 0)))) (dTest (dOp kLt (dOp kIxU (dVar 0) (dVar 2)) (dC (.int 99)))))) (dVar 2)))

def D_gains (F_look_rule : Fn) (F_look_book : Fn) (F_look_number : Fn) (F_single : Fn) (F_outcome : Fn) (F_nexts : Fn) (F_changed_to : Fn) : Fn := fnD 6
    (dSeq (dExpr (dCall F_look_rule 1 (aCons (dVar 0) aNil)))
    (dSeq (dExpr (dCall F_look_book 1 (aCons (dVar 1) aNil)))
    (dSeq (dExpr (dCall F_look_number 1 (aCons (dVar 2) aNil)))
    (dSeq (dSet 3 (dCall F_single 1 (aCons (dCall F_outcome 2 (aCons (dVar 0) (aCons (dVar 1) aNil))) aNil)))
    (dSeq (dIfS (dTest (dOp kIs (dVar 3) (dC .non))) (dRet (dLst aNil)) dNx)
    (dSeq (dSet 4 (dSl (dOp kIxU (dC c_WISHES) (dVar 2)) oNone (oSome (dM2 "tuple" kIndexT "list" kIndexL (dOp kIxU (dC c_WISHES) (dVar 2)) (aCons (dVar 3) aNil)))))
    (dRet (dComp [5] (dIt (dCall F_nexts 2 (aCons (dVar 1) (aCons (dVar 2) aNil)))) (.nm 5) (dTest (dOp kIn (dCall F_single 1 (aCons (dCall F_outcome 2 (aCons (dVar 0) (aCons (dCall F_changed_to 3 (aCons (dVar 1) (aCons (dVar 2) (aCons (dVar 5) aNil)))) aNil))) aNil)) (dVar 4))) (dVar 5)))))))))

def D_can_sway (F_look_rule : Fn) (F_look_book : Fn) (F_gains : Fn) : Fn := fnD 5
    (dSeq (dExpr (dCall F_look_rule 1 (aCons (dVar 0) aNil)))
    (dSeq (dExpr (dCall F_look_book 1 (aCons (dVar 1) aNil)))
    (dSeq (dSet 2 (dLst aNil))
    (dSeq (dForC [0, 1, 2] (dRng1 (aCons (dC (.int 6)) aNil)) (.nm 3) (dExpr (dM "list" kExtend (dVar 2) (aCons (dComp [4] (dIt (dCall F_gains 3 (aCons (dVar 0) (aCons (dVar 1) (aCons (dVar 3) aNil))))) (.nm 4) dYes (dTup (aCons (dVar 3) (aCons (dVar 4) aNil)))) aNil))))
    (dRet (dVar 2))))))

def look_number : Fn := D_look_number is_whole
def changed_to : Fn := D_changed_to
def changed : Fn := D_changed look_book look_number changed_to
def single : Fn := D_single
def nexts : Fn := D_nexts
def gains : Fn := D_gains look_rule look_book look_number single outcome nexts changed_to
def can_sway : Fn := D_can_sway look_rule look_book gains
def D_least_changes (F_look_rule : Fn) (F_look_book : Fn) (F_look_thing : Fn) (F_single : Fn) (F_outcome : Fn) (F_nexts : Fn) (F_changed_to : Fn) : Fn := fnD 9
    (dSeq (dExpr (dCall F_look_rule 1 (aCons (dVar 0) aNil)))
    (dSeq (dExpr (dCall F_look_book 1 (aCons (dVar 1) aNil)))
    (dSeq (dExpr (dCall F_look_thing 1 (aCons (dVar 2) aNil)))
    (dSeq (dSet 3 (dLst (aCons (dVar 1) aNil)))
    (dSeq (dForC [0, 2, 3] (dRng1 (aCons (dOp kAdd (dC c_MOST_CHANGES) (dC (.int 1))) aNil)) (.nm 4) (dSeq (dIfS (dTest (dB kAny (aCons (dComp [5] (dIt (dVar 3)) (.nm 5) dYes (dOp kEq (dCall F_single 1 (aCons (dCall F_outcome 2 (aCons (dVar 0) (aCons (dVar 5) aNil))) aNil)) (dVar 2))) aNil))) (dRet (dVar 4)) dNx)
    (dSeq (dSet 6 (dLst aNil))
    (dSeq (dForC [0, 2, 6] (dIt (dVar 3)) (.nm 5) (dForC [0, 2, 5, 6] (dRng1 (aCons (dC (.int 6)) aNil)) (.nm 7) (dExpr (dM "list" kExtend (dVar 6) (aCons (dComp [8] (dIt (dCall F_nexts 2 (aCons (dVar 5) (aCons (dVar 7) aNil)))) (.nm 8) dYes (dCall F_changed_to 3 (aCons (dVar 5) (aCons (dVar 7) (aCons (dVar 8) aNil))))) aNil)))))
    (dSet 3 (dB kSortU (aCons (dVar 6) aNil)))))))
    (dRet (dC .non)))))))

def D__law_changed (F_changed : Fn) : Fn := fnD 4
    (dSeq (dSet 1 (dLst aNil))
    (dSeq (dForC [0, 1] (dRng1 (aCons (dC (.int 6)) aNil)) (.nm 2) (dIfS (dTest (dOp kGt (dOp kIxU (dVar 0) (dVar 2)) (dC (.int 0)))) (dExpr (dM "list" kExtend (dVar 1) (aCons (dComp [3] (dRng1 (aCons (dC (.int 6)) aNil)) (.nm 3) (dTest (dOp kNe (dVar 3) (dVar 2))) (dCall F_changed 3 (aCons (dVar 0) (aCons (dVar 2) (aCons (dVar 3) aNil))))) aNil))) dNx))
    (dRet (dVar 1))))

def least_changes : Fn := D_least_changes look_rule look_book look_thing single outcome nexts changed_to
def _law_changed : Fn := D__law_changed changed
def D__wall : Fn := fnD 1
    (whileD (dTest (dC (.bl true))) dNx 100)

def D__law_deed (F__law_pick : Fn) : Fn := fnD 7
    (dSeq (dPar [3, 4] (aCons (dCall F__law_pick 3 (aCons (dVar 0) (aCons (dVar 1) (aCons (dC (.int 7)) aNil)))) (aCons (dCall F__law_pick 3 (aCons (dVar 0) (aCons (dOp kAdd (dVar 1) (dC (.int 1))) (aCons (dC (.int 6)) aNil)))) aNil)))
    (dSeq (dSet 5 (dComp [6] (dRng1 (aCons (dC (.int 6)) aNil)) (.nm 6) (dTest (dOp kGt (dOp kIxU (dVar 2) (dVar 6)) (dC (.int 0)))) (dVar 6)))
    (dSeq (dIfS (dAnd (dTest (dOp kNe (dVar 5) (dLst aNil))) (dTest (dOp kGt (dCall F__law_pick 3 (aCons (dVar 0) (aCons (dOp kAdd (dVar 1) (dC (.int 2))) (aCons (dC (.int 4)) aNil)))) (dC (.int 0))))) (dSet 3 (dOp kIxU (dVar 5) (dCall F__law_pick 3 (aCons (dVar 0) (aCons (dOp kAdd (dVar 1) (dC (.int 3))) (aCons (dB kLen (aCons (dVar 5) aNil)) aNil)))))) dNx)
    (dRet (dOp kIxU (dLst (aCons (dTup (aCons (dC (.str (Str.mk #[97, 100, 100]))) (aCons (dVar 4) aNil))) (aCons (dTup (aCons (dC (.str (Str.mk #[97, 100, 100]))) (aCons (dVar 3) aNil))) (aCons (dTup (aCons (dC (.str (Str.mk #[100, 114, 111, 112]))) (aCons (dVar 3) aNil))) (aCons (dTup (aCons (dC (.str (Str.mk #[99, 104, 97, 110, 103, 101]))) (aCons (dVar 3) (aCons (dVar 4) aNil)))) aNil))))) (dCall F__law_pick 3 (aCons (dVar 0) (aCons (dOp kAdd (dVar 1) (dC (.int 4))) (aCons (dC (.int 4)) aNil)))))))))

def D__law_behind : Fn := fnD 4
    (dSeq (dPar [2, 3] (aCons (dOp kIxU (dVar 1) (dC (.int 1))) (aCons (dB kList (aCons (dVar 0) aNil)) aNil)))
    (dSeq (dIfS (dOr (dTest (dOp kEq (dVar 2) (dC (.int 6)))) (dAnd (dTest (dOp kNe (dOp kIxU (dVar 1) (dC (.int 0))) (dC (.str (Str.mk #[97, 100, 100]))))) (dTest (dOp kEq (dOp kIxU (dVar 0) (dVar 2)) (dC (.int 0)))))) (dRet (dTup (aCons (dVar 0) (aCons (dC (.str (Str.mk #[110, 111, 32, 116, 104, 105, 110, 103]))) aNil)))) dNx)
    (dSeq (dIfS (dAnd (dTest (dOp kEq (dOp kIxU (dVar 1) (dC (.int 0))) (dC (.str (Str.mk #[97, 100, 100]))))) (dTest (dOp kEq (dOp kIxU (dVar 0) (dVar 2)) (dC (.int 99))))) (dRet (dTup (aCons (dVar 0) (aCons (dC (.str (Str.mk #[110, 111, 32, 98, 111, 111, 107]))) aNil)))) dNx)
    (dSeq (dPutK kPut (dVar 3) (dVar 2) (dOp kAdd (dOp kIxU (dVar 3) (dVar 2)) (dIf (dTest (dOp kEq (dOp kIxU (dVar 1) (dC (.int 0))) (dC (.str (Str.mk #[97, 100, 100]))))) (dC (.int 1)) (dNeg (dC (.int 1))))))
    (dSeq (dIfS (dTest (dOp kEq (dOp kIxU (dVar 1) (dC (.int 0))) (dC (.str (Str.mk #[99, 104, 97, 110, 103, 101]))))) (dPutK kPut (dVar 3) (dOp kIxU (dVar 1) (dC (.int 2))) (dOp kAdd (dOp kIxU (dVar 3) (dOp kIxU (dVar 1) (dC (.int 2)))) (dC (.int 1)))) dNx)
    (dRet (dTup (aCons (dB kTuple (aCons (dVar 3) aNil)) (aCons (dOp kIxU (dVar 3) (dOp kIxU (dVar 1) (dNeg (dC (.int 1))))) aNil)))))))))

def _wall : Fn := D__wall
def _law_deed (ns : List Int) : Fn := D__law_deed (_law_pick ns)
def _law_behind : Fn := D__law_behind
def D_number_in : Fn := fnD 2
    (dSeq (dIfS (dOr (dNot (dTest (dChain kLe kLe (dC (.int 1)) (dB kLen (aCons (dVar 0) aNil)) (dC (.int 2))))) (dNot (dTest (dB kAll (aCons (dComp [1] (dIt (dVar 0)) (.nm 1) dYes (dOp kIn (dVar 1) (dC (.str (Str.mk #[48, 49, 50, 51, 52, 53, 54, 55, 56, 57]))))) aNil))))) dNo dNx)
    (dRet (dB kInt (aCons (dVar 0) aNil))))

def D_parts_of : Fn := fnD 5
    (dSeq (dSet 1 (dLst (aCons (dC (.str (Str.mk #[]))) aNil)))
    (dSeq (dSet 2 (dC (.int 0)))
    (dSeq (dForC [1, 2] (dIt (dVar 0)) (.nm 3) (dSeq (dSet 2 (dOp kSub (dOp kAdd (dVar 2) (dB kInt (aCons (dOp kEq (dVar 3) (dC (.str (Str.mk #[40])))) aNil))) (dB kInt (aCons (dOp kEq (dVar 3) (dC (.str (Str.mk #[41])))) aNil))))
    (dIfS (dAnd (dTest (dOp kEq (dVar 3) (dC (.str (Str.mk #[44]))))) (dTest (dOp kEq (dVar 2) (dC (.int 0))))) (dExpr (dM "list" kAppend (dVar 1) (aCons (dC (.str (Str.mk #[]))) aNil))) (dPutK kPut (dVar 1) (dNeg (dC (.int 1))) (dOp kAdd (dOp kIxU (dVar 1) (dNeg (dC (.int 1)))) (dVar 3))))))
    (dRet (dOp kAdd (dLst (aCons (dOp kIxU (dVar 1) (dC (.int 0))) aNil)) (dComp [4] (dIt (dSl (dVar 1) (oSome (dC (.int 1))) oNone)) (.nm 4) dYes (dSl (dVar 4) (oSome (dC (.int 1))) oNone)))))))

def number_in : Fn := D_number_in
def parts_of : Fn := D_parts_of
def D__law_lists (F_all_kept : Fn) (F_all_outcomes : Fn) (F_all_books : Fn) (F_all_wishes : Fn) : Fn := fnD 2
    (dRet (dLst (aCons (dCall F_all_wishes 1 (aCons (dVar 0) aNil)) (aCons (dCall F_all_books 1 (aCons (dC (.int 2)) aNil)) (aCons (dCall F_all_outcomes 2 (aCons (dVar 1) (aCons (dC (.int 1)) aNil))) (aCons (dCall F_all_kept 2 (aCons (dVar 1) (aCons (dC (.int 0)) aNil))) aNil))))))

def _law_lists : Fn := D__law_lists all_kept all_outcomes all_books all_wishes
def D__law_moves (F__law_wishes : Fn) : Fn := fnD 7
    (dSeq (dPar [3, 4] (aCons (dCall0 F__law_wishes) (aCons (dLst (aCons (dLst (aCons (dC (.int 0)) (aCons (dC (.int 0)) (aCons (dC (.int 0)) aNil)))) (aCons (dLst (aCons (dC (.int 0)) (aCons (dC (.int 0)) (aCons (dC (.int 0)) aNil)))) (aCons (dLst (aCons (dC (.int 0)) (aCons (dC (.int 0)) (aCons (dC (.int 0)) aNil)))) aNil)))) aNil)))
    (dSeq (dForC [0, 1, 2, 3, 4] (dRng1 (aCons (dC (.int 3)) aNil)) (.nm 5) (dPutK kPut (dOp kIxU (dVar 4) (dOp kIxU (dOp kIxU (dVar 3) (dVar 0)) (dVar 5))) (dVar 5) (dIf (dTest (dOp kEq (dVar 2) (dC (.int 0)))) (dC (.int 1)) (dNeg (dC (.int 1))))))
    (dSeq (dForC [1, 2, 3, 4] (dRng1 (aCons (dC (.int 3)) aNil)) (.nm 5) (dSeq (dSet 6 (dOp kIxU (dVar 4) (dOp kIxU (dOp kIxU (dVar 3) (dVar 1)) (dVar 5))))
    (dPutK kPut (dVar 6) (dVar 5) (dOp kAdd (dOp kIxU (dVar 6) (dVar 5)) (dB kInt (aCons (dOp kEq (dVar 2) (dC (.int 2))) aNil))))))
    (dRet (dVar 4)))))

def _law_moves : Fn := D__law_moves _law_wishes
end Pg

set_option Elab.async false
set_option linter.all false
set_option maxRecDepth 100000
set_option maxHeartbeats 4000000
set_option autoImplicit false
namespace Wr
open PySem PySem.Spec PyProof.Rows L2
/-! ### running a denotation by simp -/
section
variable {α β : Type} (s : Sg) (h : Hs)
@[simp] theorem ev_bind_ok (a : α) (k : α → Hs → Rs β) : (Rs.ok a h).bind k = k a h := rfl
@[simp] theorem ev_bind_ex (c : Nat) (k : α → Hs → Rs β) : (Rs.ex c h : Rs α).bind k = .ex c h := rfl
@[simp] theorem ev_bind_no (k : α → Hs → Rs β) : (Rs.no : Rs α).bind k = .no := rfl
@[simp] theorem ev_bindS_ok (a : α) (k : α → Hs → RS) : (Rs.ok a h).bindS s k = k a h := rfl
@[simp] theorem ev_bindS_ex (c : Nat) (k : α → Hs → RS) : (Rs.ex c h : Rs α).bindS s k = .ex c s h := rfl
@[simp] theorem ev_bindS_no (k : α → Hs → RS) : (Rs.no : Rs α).bindS s k = .no := rfl
@[simp] theorem ev_var (i : Nat) : dVar i s h = match s[i]? with
  | some (some v) => .ok v h
  | _ => .no := rfl
@[simp] theorem ev_c (v : Va) : dC v s h = .ok v h := rfl
@[simp] theorem ev_nil : aNil s h = .ok [] h := rfl
@[simp] theorem ev_cons (f : De) (r : Da) : aCons f r s h = (f s h).bind fun x h1 => (r s h1).bind fun xs h2 => .ok (x :: xs) h2 := rfl
@[simp] theorem ev_op (k : K2) (fa fb : De) : dOp k fa fb s h = (fa s h).bind fun x h1 => (fb s h1).bind fun y h2 => liftO (k x y h2) := rfl
@[simp] theorem ev_lift_some (v : Va) : liftO (some (v, h)) = .ok v h := rfl
@[simp] theorem ev_test (f : De) : dTest f s h = (f s h).bind isB := rfl
@[simp] theorem ev_isB (b : Bool) : isB (.bl b) h = .ok b h := rfl
@[simp] theorem ev_tup (f : Da) : dTup f s h = (f s h).bind fun xs h1 => if okN xs.length then .ok (.tup xs) h1 else .no := rfl
@[simp] theorem ev_lst (f : Da) : dLst f s h = (f s h).bind mkL := rfl
@[simp] theorem ev_mkL (xs : List Va) : mkL xs h = if okN xs.length then .ok (.ref h.length) (h ++ [.lst xs]) else .no := rfl
@[simp] theorem ev_not (f : Dt) : dNot f s h = (f s h).bind fun c h1 => .ok (!c) h1 := rfl
@[simp] theorem ev_and (f k : Dt) : dAnd f k s h = (f s h).bind fun c h1 => match c with
  | true => k s h1
  | false => .ok false h1 := rfl
@[simp] theorem ev_or (f k : Dt) : dOr f k s h = (f s h).bind fun c h1 => match c with
  | true => .ok true h1
  | false => k s h1 := rfl
@[simp] theorem ev_andV (f k : De) : dAndV f k s h = (f s h).bind fun c h1 => match c with
  | .bl true => k s h1
  | .bl false => .ok (.bl false) h1
  | _ => .no := rfl
@[simp] theorem ev_orV (f k : De) : dOrV f k s h = (f s h).bind fun c h1 => match c with
  | .bl true => .ok (.bl true) h1
  | .bl false => k s h1
  | _ => .no := rfl
@[simp] theorem ev_notV (f : De) : dNotV f s h = (f s h).bind fun c h1 => match c with
  | .bl c => .ok (.bl (!c)) h1
  | _ => .no := rfl
@[simp] theorem ev_if (t : Dt) (f k : De) : dIf t f k s h = (t s h).bind fun c h1 => match c with
  | true => f s h1
  | false => k s h1 := rfl
@[simp] theorem ev_ifS (t : Dt) (f k : Ds) : dIfS t f k s h = (t s h).bindS s fun c h1 => match c with
  | true => f s h1
  | false => k s h1 := rfl
@[simp] theorem ev_nx : dNx s h = .nx s h := rfl
def andThen (r : RS) (k : Ds) : RS := match r with
  | .nx s1 h1 => k s1 h1
  | .rt v h1 => .rt v h1
  | .bk s1 h1 => .bk s1 h1
  | .ct s1 h1 => .ct s1 h1
  | .ex c s1 h1 => .ex c s1 h1
  | .no => .no
@[simp] theorem ev_seq (f k : Ds) : dSeq f k s h = andThen (f s h) k := rfl
@[simp] theorem ev_then_nx (k : Ds) : andThen (.nx s h) k = k s h := rfl
@[simp] theorem ev_then_rt (v : Va) (k : Ds) : andThen (.rt v h) k = .rt v h := rfl
@[simp] theorem ev_drop (l : List Nat) (k : Ds) : dDrop l k s h = k (maskS l 0 s) h := rfl
@[simp] theorem ev_expr (f : De) : dExpr f s h = (f s h).bindS s fun _ h1 => .nx s h1 := rfl
@[simp] theorem ev_ret (f : De) : dRet f s h = (f s h).bindS s fun v h1 => .rt v h1 := rfl
@[simp] theorem ev_set (i : Nat) (f : De) : dSet i f s h = (f s h).bindS s fun v h1 => .nx (s.set i (some v)) h1 := rfl
@[simp] theorem ev_call (F : Fn) (np : Nat) (a : Da) : dCall F np a s h = (a s h).bind fun xs h1 => if xs.length == np then callD F xs h1 else .no := rfl
@[simp] theorem ev_call0 (F : Fn) : dCall0 F s h = callD F [] h := rfl
@[simp] theorem ev_B (k : K1) (f : Da) : dB k f s h = (f s h).bind fun xs h1 => liftO (k xs h1) := rfl
@[simp] theorem ev_chain (k k' : K2) (fa fb fc : De) : dChain k k' fa fb fc s h = (fa s h).bind fun x h1 => (fb s h1).bind fun y h2 => (liftO (k x y h2)).bind fun z h3 => match z with
  | .bl true => (fc s h3).bind fun w h4 => liftO (k' y w h4)
  | .bl false => .ok (.bl false) h3
  | _ => .no := rfl
@[simp] theorem ev_le (i j : Int) : kLe (.int i) (.int j) h = some (.bl (decide (i ≤ j)), h) := rfl
@[simp] theorem ev_lt (i j : Int) : kLt (.int i) (.int j) h = some (.bl (decide (i < j)), h) := rfl
@[simp] theorem ev_ge (i j : Int) : kGe (.int i) (.int j) h = some (.bl (decide (j ≤ i)), h) := rfl
@[simp] theorem ev_gt (i j : Int) : kGt (.int i) (.int j) h = some (.bl (decide (j < i)), h) := rfl
@[simp] theorem ev_sub (i j : Int) : kSub (.int i) (.int j) h = some (.int (i - j), h) := rfl
@[simp] theorem ev_add (i j : Int) : kAdd (.int i) (.int j) h = some (.int (i + j), h) := rfl
@[simp] theorem ev_isiI (i : Int) (b : String) : kIsi [.int i, .ty b] h = (isiT "int" b).map fun r => (.bl r, h) := rfl
@[simp] theorem ev_isi1 : isiT "int" "int" = some true := by decide
@[simp] theorem ev_isi2 : isiT "int" "bool" = some false := by decide
@[simp] theorem ev_yes : dYes s h = .ok true h := rfl
@[simp] theorem ev_it (f : De) : dIt f s h = (f s h).bind itOf := rfl
@[simp] theorem ev_itOf (xs : List Va) : itOf (.tup xs) h = .ok (.tup xs) h := rfl
@[simp] theorem ev_comp (own : List Nat) (di : Di) (t : Tg) (test : Dt) (el : De) : dComp own di t test el s h = (di s h).bind fun it h1 => (compL it t test el (wipeS s own) (itLen it h1 + 1) 0 h1).bind mkL := rfl
@[simp] theorem ev_isiT (xs : List Va) (b : String) : kIsi [.tup xs, .ty b] h = (isiT "tuple" b).map fun r => (.bl r, h) := rfl
@[simp] theorem ev_isi3 : isiT "tuple" "tuple" = some true := by decide
@[simp] theorem ev_lenT (xs : List Va) : kLen [.tup xs] h = some (.int xs.length, h) := rfl
theorem bd_int (i j : Int) : (i == j) = decide (i = j) := by
  by_cases h : i = j
  · simp [h]
  · simp [h]
@[simp] theorem ev_okN (n : Nat) : okN n = decide (n ≤ 16777216) := rfl
@[simp] theorem ev_eqI (i j : Int) : kEq (.int i) (.int j) h = some (.bl (decide (i = j)), h) := by
  simp [kEq, toD, PyData.eqv, bd_int]
@[simp] theorem ev_neI (i j : Int) : kNe (.int i) (.int j) h = some (.bl (!decide (i = j)), h) := by
  simp [kNe, toD, PyData.eqv, bd_int]
/-- a comprehension over what is there -/
def compS (t : Tg) (test : Dt) (el : De) (s : Sg) : List Va → Hs → Rs (List Va)
  | [], h => .ok [] h
  | v :: vs, h => match setT t v s h with
    | none => .no
    | some s1 => match test s1 h with
      | .ok true h1 => match el s1 h1 with
        | .ok y h2 => match compS t test el s vs h2 with
          | .ok ys h3 => .ok (y :: ys) h3
          | .ex _ _ => .no
          | .no => .no
        | .ex _ _ => .no
        | .no => .no
      | .ok false h1 => compS t test el s vs h1
      | .ex _ _ => .no
      | .no => .no
theorem compS_gen (it : It') (zs : List Va) (t : Tg) (test : Dt) (el : De) (s : Sg) (hn : ∀ (i : Nat) (h : Hs), i ≤ zs.length → nxt it i h = some zs[i]?) : ∀ (f i : Nat) (h : Hs), i + f = zs.length + 1 → 0 < f → compL it t test el s f i h = compS t test el s (zs.drop i) h
  | 0, _, _, _, z => absurd z (Nat.lt_irrefl 0)
  | f + 1, i, h, e, _ => by
    unfold compL
    rw [hn i h (by omega)]
    by_cases hi : i < zs.length
    · rw [List.getElem?_eq_getElem hi, List.drop_eq_getElem_cons hi]
      simp only [compS]
      cases setT t zs[i] s h with
      | none => rfl
      | some s1 =>
        simp only
        cases test s1 h with
        | no => rfl
        | ex c h1 => rfl
        | ok b h1 =>
          cases b with
          | false => simp only; exact compS_gen it zs t test el s hn f (i + 1) h1 (by omega) (by omega)
          | true =>
            simp only
            cases el s1 h1 with
            | no => rfl
            | ex c h2 => rfl
            | ok y h2 =>
              simp only
              rw [compS_gen it zs t test el s hn f (i + 1) h2 (by omega) (by omega)]
              all_goals (cases compS t test el s (zs.drop (i + 1)) h2 <;> rfl)
    · rw [List.getElem?_eq_none (by omega), List.drop_of_length_le (by omega)]
      rfl
@[simp] theorem ev_compT (xs : List Va) (t : Tg) (test : Dt) (el : De) : compL (.tup xs) t test el s (itLen (.tup xs) h + 1) 0 h = compS t test el s xs h :=
  compS_gen (.tup xs) xs t test el s (fun _ _ _ => rfl) (xs.length + 1) 0 h (by omega) (by omega)
def zipV : List Va → List Va → List Va
  | x :: xs, y :: ys => .tup [x, y] :: zipV xs ys
  | _, _ => []
theorem zipV_len : ∀ xs ys : List Va, (zipV xs ys).length = min xs.length ys.length
  | [], ys => by simp [zipV]
  | x :: xs, [] => by simp [zipV]
  | x :: xs, y :: ys => by simp only [zipV, List.length_cons, zipV_len xs ys]; omega
theorem zipV_get : ∀ (xs ys : List Va) (i : Nat), (zipV xs ys)[i]? = match xs[i]?, ys[i]? with
    | some x, some y => some (.tup [x, y])
    | _, _ => none
  | [], ys, i => by simp [zipV]
  | x :: xs, [], i => by
    simp only [zipV, List.getElem?_nil]
    cases (x :: xs)[i]? <;> rfl
  | x :: xs, y :: ys, 0 => by simp [zipV]
  | x :: xs, y :: ys, i + 1 => by simpa [zipV] using zipV_get xs ys i
@[simp] theorem ev_compZ (xs ys : List Va) (t : Tg) (test : Dt) (el : De) : compL (.zip (.tup xs) (.tup ys)) t test el s (itLen (.zip (.tup xs) (.tup ys)) h + 1) 0 h = compS t test el s (zipV xs ys) h := by
  refine compS_gen _ (zipV xs ys) t test el s (fun i h' hi => ?_) _ 0 h (by rw [zipV_len]; simp [itLen]) (by omega)
  rw [zipV_len] at hi
  have hc : (decide (i ≤ itLen (.tup xs) h') && decide (i ≤ itLen (.tup ys) h')) = true := by
    show (decide (i ≤ xs.length) && decide (i ≤ ys.length)) = true
    simp; omega
  unfold nxt
  rw [if_pos hc, zipV_get]
  simp only [nxt]
  cases xs[i]? with
  | none => rfl
  | some x => cases ys[i]? <;> rfl
@[simp] theorem ev_zip (f : Da) : dZipS f s h = (f s h).bind fun vs h1 => match vs with
  | [x, y] => if noStr x && noStr y then pairIt x y h1 else .no
  | _ => .no := rfl
@[simp] theorem ev_noStr (xs : List Va) : noStr (.tup xs) = true := rfl
@[simp] theorem ev_pairIt (xs ys : List Va) : pairIt (.tup xs) (.tup ys) h = .ok (.zip (.tup xs) (.tup ys)) h := rfl
@[simp] theorem ev_setT2 (i j : Nat) (x y : Va) : setT (.tp [i, j]) (.tup [x, y]) s h = some ((s.set i (some x)).set j (some y)) := rfl
@[simp] theorem ev_mul_r (i j : Int) (h1 : -18446744073709551616 < j) (h2 : j < 18446744073709551616) : kMul (.int i) (.int j) h = some (.int (i * j), h) := by
  unfold kMul
  simp only
  rw [if_pos]
  unfold mulOk
  rw [decide_eq_true (show -(2 ^ 64) < j by omega), decide_eq_true (show j < 2 ^ 64 by omega)]
  simp
@[simp] theorem ev_mul_l (i j : Int) (h1 : -18446744073709551616 < i) (h2 : i < 18446744073709551616) : kMul (.int i) (.int j) h = some (.int (i * j), h) := by
  unfold kMul
  simp only
  rw [if_pos]
  unfold mulOk
  rw [decide_eq_true (show -(2 ^ 64) < i by omega), decide_eq_true (show i < 2 ^ 64 by omega)]
  simp
@[simp] theorem ev_sum (r : Nat) : kSumA [.ref r] h = (lstArg [.ref r] h).bind fun ys => (intsV ys).map fun ns => (.int ns.sum, h) := rfl
@[simp] theorem ev_ints0 : intsV [] = some [] := rfl
@[simp] theorem ev_ints1 (i : Int) (l : List Va) : intsV (.int i :: l) = (intsV l).map fun r => i :: r := by
  cases e : intsV l with
  | none => simp [intsV, e]
  | some r => simp [intsV, e]
@[simp] theorem ev_compS_nil (t : Tg) (test : Dt) (el : De) : compS t test el s [] h = .ok [] h := rfl
@[simp] theorem ev_compS_cons (t : Tg) (test : Dt) (el : De) (v : Va) (vs : List Va) : compS t test el s (v :: vs) h = match setT t v s h with
    | none => .no
    | some s1 => match test s1 h with
      | .ok true h1 => match el s1 h1 with
        | .ok y h2 => match compS t test el s vs h2 with
          | .ok ys h3 => .ok (y :: ys) h3
          | .ex _ _ => .no
          | .no => .no
        | .ex _ _ => .no
        | .no => .no
      | .ok false h1 => compS t test el s vs h1
      | .ex _ _ => .no
      | .no => .no := rfl
@[simp] theorem ev_setT (i : Nat) (v : Va) : setT (.nm i) v s h = some (s.set i (some v)) := rfl
@[simp] theorem ev_wipe0 : wipeS s [] = s := rfl
@[simp] theorem ev_wipe1 (i : Nat) (l : List Nat) : wipeS s (i :: l) = (wipeS s l).set i none := rfl
/-- lists told by the heap -/
@[simp] theorem ev_lstArg (r : Nat) : lstArg [.ref r] h = match h[r]? with
  | some (.lst ys) => some ys
  | _ => none := rfl
@[simp] theorem ev_all (xs : List Va) : kAll xs h = (lstArg xs h).bind fun ys => (bls ys).map fun bs => (.bl (bs.all id), h) := rfl
@[simp] theorem ev_bls0 : bls [] = some [] := rfl
@[simp] theorem ev_bls1 (b : Bool) (l : List Va) : bls (.bl b :: l) = (bls l).map fun r => b :: r := by
  cases e : bls l with
  | none => simp [bls, e]
  | some r => simp [bls, e]
end
end Wr
namespace Pg
open PySem PySem.Spec PyProof.Rows L2 Wr
theorem whole_ok (i lo hi : Int) (h1 : lo ≤ i) (h2 : i ≤ hi) : is_whole [.int i, .int lo, .int hi] [] = .ok (.bl true) [] := by
  simp [is_whole, D_is_whole, fnD, h1, h2, toRs, compact]
theorem book_ok (a b c d e f : Int) (h : ∀ x ∈ [a, b, c, d, e, f], 0 ≤ x ∧ x ≤ 99) : is_book [.tup [.int a, .int b, .int c, .int d, .int e, .int f]] [] = .ok (.bl true) [] := by
  have w : ∀ (x : Int) (h : Hs), 0 ≤ x ∧ x ≤ 99 → callD is_whole [.int x, .int 0, .int 99] h = .ok (.bl true) h := fun x h hx => callD_flat rfl rfl rfl (whole_ok x 0 99 hx.1 hx.2)
  simp only [List.mem_cons, List.not_mem_nil, or_false, forall_eq_or_imp, forall_eq] at h
  obtain ⟨h0, h1, h2, h3, h4, h5⟩ := h
  simp [is_book, D_is_book, fnD, c_GREATEST, w, h0, h1, h2, h3, h4, h5]
  rfl
theorem look_book_ok (a b c d e f : Int) (h : ∀ x ∈ [a, b, c, d, e, f], 0 ≤ x ∧ x ≤ 99) : look_book [.tup [.int a, .int b, .int c, .int d, .int e, .int f]] [] = .ok .non [] := by
  have w : ∀ h', callD is_book [.tup [.int a, .int b, .int c, .int d, .int e, .int f]] h' = .ok (.bl true) h' := fun h' => callD_flat rfl rfl rfl (book_ok a b c d e f h)
  simp [look_book, D_look_book, fnD, w, toRs, compact]
/-- who is ahead -/
abbrev Bk (a b c d e f : Int) : Va := .tup [.int a, .int b, .int c, .int d, .int e, .int f]
/-- swaps of two rankings -/
def wv : Nat → Va
  | 0 => .tup [.int 0, .int 1, .int 2]
  | 1 => .tup [.int 0, .int 2, .int 1]
  | 2 => .tup [.int 1, .int 0, .int 2]
  | 3 => .tup [.int 1, .int 2, .int 0]
  | 4 => .tup [.int 2, .int 0, .int 1]
  | _ => .tup [.int 2, .int 1, .int 0]
def swN (i j : Nat) : Int := match swaps_of [wv i, wv j] [] with
  | .ok (.int n) _ => n
  | _ => 0
theorem lt6 {i : Nat} (h : i < 6) : i = 0 ∨ i = 1 ∨ i = 2 ∨ i = 3 ∨ i = 4 ∨ i = 5 := by omega
theorem swaps_of_ok (i j : Nat) (hi : i < 6) (hj : j < 6) (h : Hs) : callD swaps_of [wv i, wv j] h = .ok (.int (swN i j)) h := by
  rcases lt6 hi with rfl | rfl | rfl | rfl | rfl | rfl <;> rcases lt6 hj with rfl | rfl | rfl | rfl | rfl | rfl <;> exact callD_flat rfl rfl rfl (by kernel_rfl)
theorem is_wish_ok (j : Nat) (hj : j < 6) (h : Hs) : callD is_wish [wv j] h = .ok (.bl true) h := by
  rcases lt6 hj with rfl | rfl | rfl | rfl | rfl | rfl <;> exact callD_flat rfl rfl rfl (by kernel_rfl)
theorem swN_small (i j : Nat) (hi : i < 6) (hj : j < 6) : 0 ≤ swN i j ∧ swN i j ≤ 3 := by
  rcases lt6 hi with rfl | rfl | rfl | rfl | rfl | rfl <;> rcases lt6 hj with rfl | rfl | rfl | rfl | rfl | rfl <;> decide +kernel
def farI (a b c d e f : Int) (j : Nat) : Int := a * swN 0 j + (b * swN 1 j + (c * swN 2 j + (d * swN 3 j + (e * swN 4 j + f * swN 5 j))))
theorem far_ok (a b c d e f : Int) (h : ∀ x ∈ [a, b, c, d, e, f], 0 ≤ x ∧ x ≤ 99) (j : Nat) (hj : j < 6) : far [Bk a b c d e f, wv j] [] = .ok (.int (farI a b c d e f j)) [] := by
  have w : ∀ h', callD look_book [Bk a b c d e f] h' = .ok .non h' := fun h' => callD_flat rfl rfl rfl (look_book_ok a b c d e f h)
  have w2 := is_wish_ok j hj
  have w3 := fun i hi => swaps_of_ok i j hi hj
  have z : ∀ i, i < 6 → -18446744073709551616 < swN i j ∧ swN i j < 18446744073709551616 := fun i hi => by
    have := swN_small i j hi hj
    omega
  have e0 : c_WISHES = .tup [wv 0, wv 1, wv 2, wv 3, wv 4, wv 5] := rfl
  simp [far, D_far, fnD, e0, w, w2, w3, zipV, z, toRs]
  rfl
/-! ### draws -/
theorem cell_ok (ns : List Int) (k : Int) (hk : 0 ≤ k) : ∃ c, _law_cell ns [.scr, .int k] [] = .ok (.int c) [] := by
  by_cases h1 : k < (ns.length : Int)
  · obtain ⟨j, rfl⟩ := Int.eq_ofNat_of_zero_le hk
    have h2 : j < ns.length := by omega
    have e : L2.atI ns (j : Int) = some ns[j] := by
      unfold L2.atI ixN
      rw [if_pos (by omega), if_pos (by omega)]
      simp [List.getElem?_eq_getElem h2]
    exact ⟨ns[j], by simp [_law_cell, D__law_cell, fnD, kLenS, h1, h2, kIxS, e, toRs, compact]⟩
  · cases ns with
    | nil =>
      have h6 : ¬ k < 0 := by omega
      exact ⟨0, by simp [_law_cell, D__law_cell, fnD, kLenS, kEqS, eqNil, h6, toRs]; rfl⟩
    | cons x t =>
      have h0 : (0 : Int) < ((x :: t).length : Int) := by simp only [List.length_cons]; omega
      have h3 := Int.emod_nonneg k (by omega : ((x :: t).length : Int) ≠ 0)
      have h4 := Int.emod_lt_of_pos k h0
      obtain ⟨j, hj⟩ := Int.eq_ofNat_of_zero_le h3
      rw [hj] at h4
      have h5 : j < (x :: t).length := by omega
      generalize hL : ((x :: t).length : Int) = L at *
      have e : L2.atI (x :: t) (k % L) = some (x :: t)[j] := by
        rw [hj]
        unfold L2.atI ixN
        rw [if_pos (by omega), if_pos (by omega)]
        simp [List.getElem?_eq_getElem h5]
      refine ⟨(x :: t)[j] * 31 + k, ?_⟩
      have e2 : kMod (.int k) (.int L) [.lst []] = some (.int (k % L), [.lst []]) := by
        unfold kMod
        simp only
        rw [if_pos (decide_eq_true h0)]
      have e3 : ∀ h : Hs, kLenS (x :: t) [.scr] h = some (.int L, h) := fun h => by rw [← hL]; rfl
      simp [_law_cell, D__law_cell, fnD, e3, h1, kEqS, eqNil, e2, kIxS, e, toRs]
      rfl
theorem pick_ok (ns : List Int) (k m : Int) (hk : 0 ≤ k) (hm : 0 < m) (h : Hs) : ∃ r, 0 ≤ r ∧ r < m ∧ callD (_law_pick ns) [.scr, .int k, .int m] h = .ok (.int r) h := by
  obtain ⟨c, hc⟩ := cell_ok ns k hk
  have w : ∀ h', callD (_law_cell ns) [.scr, .int k] h' = .ok (.int c) h' := fun h' => callD_flat rfl rfl rfl hc
  generalize hd : (c + 6151 * (k + 1)) * 40692 % 2147483399 = d
  have h1 : 0 ≤ d := by rw [← hd]; exact Int.emod_nonneg _ (by decide)
  have h2 : d < 2147483399 := by rw [← hd]; exact Int.emod_lt_of_pos _ (by decide)
  have z1 : -18446744073709551616 < d := by omega
  have z2 : d < 18446744073709551616 := by omega
  refine ⟨(d * d + d / 31) % 2147483629 % m, Int.emod_nonneg _ (by omega), Int.emod_lt_of_pos _ hm, callD_flat rfl rfl rfl ?_⟩
  simp [_law_pick, D__law_pick, fnD, w, kMod, hd, z1, z2, kFdivW, hm, toRs]
  rfl
/-! ### who is ahead -/
def ahI (a b c d e f : Int) (i j : Nat) : Int := match ahead_in [Bk a b c d e f, .int i, .int j] [] with
  | .ok (.int n) _ => n
  | _ => 0
theorem lt3 {i : Nat} (h : i < 3) : i = 0 ∨ i = 1 ∨ i = 2 := by omega
theorem ahead_ok (a b c d e f : Int) (i j : Nat) (hi : i < 3) (hj : j < 3) (h : Hs) : callD ahead_in [Bk a b c d e f, .int i, .int j] h = .ok (.int (ahI a b c d e f i j)) h := by
  rcases lt3 hi with rfl | rfl | rfl <;> rcases lt3 hj with rfl | rfl | rfl <;> exact callD_flat rfl rfl rfl (by kernel_rfl)
theorem ah01 (a b c d e f : Int) : ahI a b c d e f 0 1 = a + (b + (e + 0)) := by kernel_rfl
theorem ah02 (a b c d e f : Int) : ahI a b c d e f 0 2 = a + (b + (c + 0)) := by kernel_rfl
theorem ah12 (a b c d e f : Int) : ahI a b c d e f 1 2 = a + (c + (d + 0)) := by kernel_rfl
theorem ah10 (a b c d e f : Int) : ahI a b c d e f 1 0 = c + (d + (f + 0)) := by kernel_rfl
theorem ah20 (a b c d e f : Int) : ahI a b c d e f 2 0 = d + (e + (f + 0)) := by kernel_rfl
theorem ah21 (a b c d e f : Int) : ahI a b c d e f 2 1 = b + (e + (f + 0)) := by kernel_rfl
theorem more_ok (a b c d e f : Int) (i j : Nat) (hi : i < 3) (hj : j < 3) (h : Hs) : callD more [Bk a b c d e f, .int i, .int j] h = .ok (.int (ahI a b c d e f i j - ahI a b c d e f j i)) h := by
  have w := fun h' => ahead_ok a b c d e f i j hi hj h'
  have w2 := fun h' => ahead_ok a b c d e f j i hj hi h'
  refine callD_flat rfl rfl rfl ?_
  simp [more, D_more, fnD, w, w2, toRs]
  rfl
theorem margins_ok (a b c d e f : Int) (h : ∀ x ∈ [a, b, c, d, e, f], 0 ≤ x ∧ x ≤ 99) (h' : Hs) : callD margins [Bk a b c d e f] h' =
    .ok (.tup [.int (ahI a b c d e f 0 1 - ahI a b c d e f 1 0), .int (ahI a b c d e f 0 2 - ahI a b c d e f 2 0), .int (ahI a b c d e f 1 2 - ahI a b c d e f 2 1)]) h' := by
  have w : ∀ h', callD look_book [Bk a b c d e f] h' = .ok .non h' := fun h' => callD_flat rfl rfl rfl (look_book_ok a b c d e f h)
  have w1 : ∀ h', callD more [Bk a b c d e f, .int 0, .int 1] h' = _ := fun h' => more_ok a b c d e f 0 1 (by decide) (by decide) h'
  have w2 : ∀ h', callD more [Bk a b c d e f, .int 0, .int 2] h' = _ := fun h' => more_ok a b c d e f 0 2 (by decide) (by decide) h'
  have w3 : ∀ h', callD more [Bk a b c d e f, .int 1, .int 2] h' = _ := fun h' => more_ok a b c d e f 1 2 (by decide) (by decide) h'
  refine callD_flat rfl rfl rfl ?_
  simp [margins, D_margins, fnD, c_COUPLES, w, w1, w2, w3, kTuple, toRs]
  rfl
end Pg

set_option Elab.async false
set_option linter.all false
set_option maxRecDepth 100000
set_option maxHeartbeats 4000000
set_option autoImplicit false
namespace Wr
open PySem PySem.Spec PyProof.Rows L2
theorem forC_go {n0 : Nat} {live : List Nat} {it : It'} {t : Tg} {body : Ds} {f i : Nat} {s0 s s1 s2 : Sg} {h0 h h2 : Hs} {v : Va} (hc : cleanS n0 live s0 h0 = some (s, h)) (hn : nxt it i h = some (some v)) (ht : setT t v s h = some s1) (hb : body s1 h = .nx s2 h2) :
    forC n0 live it t body (f + 1) i s0 h0 = forC n0 live it t body f (i + 1) s2 h2 := by
  conv => lhs; unfold forC
  rw [hc]
  simp only
  rw [hn]
  simp only
  rw [ht]
  simp only
  rw [hb]
theorem forC_end {n0 : Nat} {live : List Nat} {it : It'} {t : Tg} {body : Ds} {f i : Nat} {s0 s : Sg} {h0 h : Hs} (hc : cleanS n0 live s0 h0 = some (s, h)) (hn : nxt it i h = some none) : forC n0 live it t body (f + 1) i s0 h0 = .nx s h := by
  conv => lhs; unfold forC
  rw [hc]
  simp only
  rw [hn]
@[simp] theorem ev_append (r : Nat) (y : Va) (h : Hs) : kAppend (.ref r) [y] h = match h[r]? with
  | some (.lst ys) => if okN (ys.length + 1) then some (.non, h.set r (.lst (ys ++ [y]))) else none
  | _ => none := rfl
@[simp] theorem ev_M (T : String) (k : KM) (fo : De) (fa : Da) (s : Sg) (h : Hs) : dM T k fo fa s h = (fo s h).bind fun x h1 => match isTy T x h1 with
  | true => (fa s h1).bind fun xs h2 => liftO (k x xs h2)
  | false => .no := rfl
@[simp] theorem ev_isTyR (T : String) (r : Nat) (h : Hs) : isTy T (.ref r) h = match h[r]? with
  | some (.lst _) => T == "list"
  | _ => false := rfl
@[simp] theorem ev_intB (b : Bool) (h : Hs) : kInt [.bl b] h = some (.int (if b then 1 else 0), h) := rfl
@[simp] theorem ev_intI (b : Int) (h : Hs) : kInt [.int b] h = some (.int b, h) := rfl
theorem compL_pure (it : It') (zs : List Va) (t : Tg) (test : Dt) (el : De) (s : Sg) (h : Hs) (p : Va → Bool) (e : Va → Va) (hn : ∀ (i : Nat), i ≤ zs.length → nxt it i h = some zs[i]?)
    (hz : ∀ z ∈ zs, ∃ s1, setT t z s h = some s1 ∧ test s1 h = .ok (p z) h ∧ (p z = true → el s1 h = .ok (e z) h)) : ∀ (f i : Nat), i + f = zs.length + 1 → 0 < f → compL it t test el s f i h = .ok (((zs.drop i).filter p).map e) h
  | 0, _, _, z => absurd z (Nat.lt_irrefl 0)
  | f + 1, i, e0, _ => by
    unfold compL
    rw [hn i (by omega)]
    by_cases hi : i < zs.length
    · rw [List.getElem?_eq_getElem hi, List.drop_eq_getElem_cons hi]
      obtain ⟨s1, h1, h2, h3⟩ := hz zs[i] (List.getElem_mem hi)
      simp only [h1, h2]
      have ih := compL_pure it zs t test el s h p e hn hz f (i + 1) (by omega) (by omega)
      cases hp : p zs[i] with
      | false => simp only [ih, List.filter_cons, hp]; rfl
      | true => simp only [h3 hp, ih, List.filter_cons, hp]; rfl
    · rw [List.getElem?_eq_none (by omega), List.drop_of_length_le (by omega)]
      rfl
def rngV (lo : Int) (n : Nat) : List Va := (List.range n).map fun (i : Nat) => .int (lo + (i : Int))
theorem rngV_nxt (lo : Int) (n i : Nat) (h : Hs) : nxt (.rng lo n) i h = some (rngV lo n)[i]? := by
  simp only [nxt, rngV, List.getElem?_map]
  by_cases hi : i < n
  · rw [if_pos hi, List.getElem?_range hi]; rfl
  · rw [if_neg hi, List.getElem?_eq_none (by simp; omega)]; rfl
theorem comp_rng (own : List Nat) (f : Da) (lo : Int) (n : Nat) (t : Tg) (test : Dt) (el : De) (s : Sg) (h : Hs) (p : Va → Bool) (e : Va → Va) (hd : dRng1 f s h = .ok (.rng lo n) h) (hl : n ≤ 1000)
    (hz : ∀ z ∈ rngV lo n, ∃ s1, setT t z (wipeS s own) h = some s1 ∧ test s1 h = .ok (p z) h ∧ (p z = true → el s1 h = .ok (e z) h)) :
    dComp own (dRng1 f) t test el s h = .ok (.ref h.length) (h ++ [.lst (((rngV lo n).filter p).map e)]) := by
  have hlen : (rngV lo n).length = n := by simp [rngV]
  unfold dComp
  rw [hd]
  simp only [Rs.bind]
  rw [show itLen (.rng lo n) h = n from rfl, compL_pure (.rng lo n) (rngV lo n) t test el _ h p e (fun i _ => rngV_nxt lo n i h) hz (n + 1) 0 (by omega) (by omega)]
  simp only [List.drop_zero, mkL]
  have : (((rngV lo n).filter p).map e).length ≤ n := by
    rw [List.length_map]
    exact Nat.le_trans (List.length_filter_le _ _) (Nat.le_of_eq hlen)
  rw [if_pos (by simp only [okN, decide_eq_true_eq]; omega)]
/-- lists of ints that are alike -/
theorem toD_ints (h : Hs) (n : Nat) : ∀ l : List Int, mapO (toD h n) (l.map Va.int) = some (l.map PyData.int)
  | [] => rfl
  | x :: t => by
    have e : toD h n (.int x) = some (.int x) := by cases n <;> rfl
    simp only [List.map_cons, mapO, e, toD_ints h n t]
theorem eqv_ints : ∀ l : List Int, PyData.eqvAll (l.map PyData.int) (l.map PyData.int) = true
  | [] => by simp [PyData.eqvAll]
  | x :: t => by simp [PyData.eqvAll, PyData.eqv, eqv_ints t]
theorem ne_same (x y : Nat) (l : List Int) (h : Hs) (h1 : h[x]? = some (.lst (l.map Va.int))) (h2 : h[y]? = some (.lst (l.map Va.int))) : kNe (.ref x) (.ref y) h = some (.bl false, h) := by
  have e1 : toD h 9 (.ref x) = some (.list (l.map PyData.int)) := by
    unfold toD; rw [h1]; simp only [toD_ints, Option.map_some]
  have e2 : toD h 9 (.ref y) = some (.list (l.map PyData.int)) := by
    unfold toD; rw [h2]; simp only [toD_ints, Option.map_some]
  unfold kNe
  rw [e1, e2]
  simp only [PyData.eqv, eqv_ints]
  rfl
theorem refs_ints : ∀ l : List Int, refsVs (l.map Va.int) = []
  | [] => rfl
  | x :: t => by simp [refsVs, refsV, refs_ints t]
theorem rens_ints (g : Nat → Option Nat) : ∀ l : List Int, rens g (l.map Va.int) = some (l.map Va.int)
  | [] => rfl
  | x :: t => by simp [rens, ren, rens_ints g t]
theorem compact_second (o : Ob) (l : List Int) : compact 0 (.ok (.ref 1) [o, .lst (l.map Va.int)]) = .ok (.ref 0) [.lst (l.map Va.int)] := by
  have e : lastM 0 (.ref 1) [o, .lst (l.map Va.int)] = [1] := by
    simp [lastM, refsV, reach, refsO, refs_ints]
  simp [compact, e, nodupB, ren, idx, selO, renO, rens_ints]
theorem callD_list {F : Fn} {args xs : List Va} {hp : Hs} (h1 : refsVs args = []) (h2 : rens (idx []) args = some args) (h3 : rens (bkI [] hp.length) xs = some xs) (h : F args [] = .ok (.ref 0) [.lst xs]) : callD F args hp = .ok (.ref hp.length) (hp ++ [.lst xs]) := by
  unfold callD
  rw [h1]
  have e : reach 300 hp [] [] = [] := rfl
  simp only [e]
  have e2 : nodupB [] = true := rfl
  rw [if_pos e2, h2]
  have e3 : selO [] hp [] = some [] := rfl
  simp only [e3]
  rw [h]
  have e4 : ren (bkI [] hp.length) (.ref 0) = some (.ref hp.length) := by simp [ren, bkI]
  simp only [back, e4]
  have e5 : backH [] hp [.lst xs] = some (hp ++ [.lst xs]) := by
    unfold backH
    have e6 : renOs (bkI [] hp.length) [.lst xs] = some [.lst xs] := by
      simp [renOs, renO, h3]
    rw [e6]
    simp [mix_nil]
  rw [e5]
end Wr
namespace Pg
open PySem PySem.Spec PyProof.Rows L2 Wr
theorem wishes_ok (h : Hs) : callD _law_wishes [] h = .ok (.ref h.length) (h ++ [.lst [wv 0, wv 1, wv 2, wv 3, wv 4, wv 5]]) :=
  callD_list rfl rfl rfl (by kernel_rfl)
abbrev six : Ob := .lst [.int 1, .int 2, .int 3, .int 4, .int 9, .int 50]
abbrev lbB (F__law_pick : Fn) : Ds := (dExpr (dM "list" kAppend (dVar 3) (aCons (dOp kMul (dCall F__law_pick 3 (aCons (dVar 0) (aCons (dOp kAdd (dOp kAdd (dVar 1) (dC (.int 1))) (dVar 4)) (aCons (dOp kAdd (dVar 2) (dC (.int 1))) aNil)))) (dB kInt (aCons (dOp kGt (dCall F__law_pick 3 (aCons (dVar 0) (aCons (dOp kAdd (dOp kAdd (dVar 1) (dC (.int 8))) (dVar 4)) (aCons (dC (.int 3)) aNil)))) (dC (.int 0))) aNil))) aNil)))
abbrev lbS (at_ m : Int) (k : Option Va) : Sg := [some .scr, some (.int at_), some (.int m), some (.ref 1), k]
theorem lb_turn (ns : List Int) (at_ m k : Int) (h1 : 0 ≤ at_) (h2 : 0 ≤ k) (hm : 0 ≤ m) (hm2 : m ≤ 50) (acc : List Va) (ha : acc.length < 100) : ∃ v, 0 ≤ v ∧ v ≤ 50 ∧ lbB (_law_pick ns) (lbS at_ m (some (.int k))) [six, .lst acc] = .nx (lbS at_ m (some (.int k))) [six, .lst (acc ++ [.int v])] := by
  obtain ⟨p, p1, p2, p3⟩ := pick_ok ns (at_ + 1 + k) (m + 1) (by omega) (by omega) [six, .lst acc]
  obtain ⟨q, q1, q2, q3⟩ := pick_ok ns (at_ + 8 + k) 3 (by omega) (by omega) [six, .lst acc]
  have z : acc.length + 1 ≤ 16777216 := by omega
  refine ⟨p * (if 0 < q then 1 else 0), ?_, ?_, ?_⟩
  · split <;> omega
  · split <;> omega
  · by_cases hq : 0 < q
    · simp [lbB, lbS, p3, q3, hq, z]
    · simp [lbB, lbS, p3, q3, hq, z]
theorem rng_at (j : Nat) (h : Hs) (hj : j < 6) : nxt (.rng 0 6) j h = some (some (.int (0 + (j : Int)))) := by
  simp only [nxt]
  rw [if_pos hj]
theorem lbook_ok (ns : List Int) (at_ : Int) (h0 : 0 ≤ at_) : ∃ a b c d e f, (∀ x ∈ [a, b, c, d, e, f], 0 ≤ x ∧ x ≤ 50) ∧ ∀ h, callD (_law_book ns) [.scr, .int at_] h = .ok (Bk a b c d e f) h := by
  obtain ⟨r, r1, r2, r3⟩ := pick_ok ns at_ 6 h0 (by omega) [six]
  have hm : ∃ m, 0 ≤ m ∧ m ≤ 50 ∧ kIxU (.ref 0) (.int r) [six] = some (.int m, [six]) := by
    have : r = 0 ∨ r = 1 ∨ r = 2 ∨ r = 3 ∨ r = 4 ∨ r = 5 := by omega
    rcases this with rfl | rfl | rfl | rfl | rfl | rfl
    · exact ⟨1, by omega, by omega, rfl⟩
    · exact ⟨2, by omega, by omega, rfl⟩
    · exact ⟨3, by omega, by omega, rfl⟩
    · exact ⟨4, by omega, by omega, rfl⟩
    · exact ⟨9, by omega, by omega, rfl⟩
    · exact ⟨50, by omega, by omega, rfl⟩
  obtain ⟨m, m1, m2, m3⟩ := hm
  obtain ⟨a, a1, a2, a3⟩ := lb_turn ns at_ m (0 + ((0 : Nat) : Int)) h0 (by omega) m1 m2 [] (by simp)
  obtain ⟨b, b1, b2, b3⟩ := lb_turn ns at_ m (0 + ((1 : Nat) : Int)) h0 (by omega) m1 m2 [.int a] (by simp)
  obtain ⟨c, c1, c2, c3⟩ := lb_turn ns at_ m (0 + ((2 : Nat) : Int)) h0 (by omega) m1 m2 [.int a, .int b] (by simp)
  obtain ⟨d, d1, d2, d3⟩ := lb_turn ns at_ m (0 + ((3 : Nat) : Int)) h0 (by omega) m1 m2 [.int a, .int b, .int c] (by simp)
  obtain ⟨e, e1, e2, e3⟩ := lb_turn ns at_ m (0 + ((4 : Nat) : Int)) h0 (by omega) m1 m2 [.int a, .int b, .int c, .int d] (by simp)
  obtain ⟨f, f1, f2, f3⟩ := lb_turn ns at_ m (0 + ((5 : Nat) : Int)) h0 (by omega) m1 m2 [.int a, .int b, .int c, .int d, .int e] (by simp)
  refine ⟨a, b, c, d, e, f, by simp; omega, fun h => callD_flat rfl rfl rfl ?_⟩
  have loop : dForC [0, 1, 2, 3] (dRng1 (aCons (dC (.int 6)) aNil)) (.nm 4) (lbB (_law_pick ns)) (lbS at_ m none) [six, .lst []] = .nx (lbS at_ m none) [six, .lst [.int a, .int b, .int c, .int d, .int e, .int f]] := by
    show forC 2 [0, 1, 2, 3] (.rng 0 6) (.nm 4) (lbB (_law_pick ns)) 7 0 (lbS at_ m none) [six, .lst []] = _
    rw [forC_go (s := lbS at_ m none) (h := [six, .lst []]) rfl (rng_at 0 _ (by decide)) rfl a3]
    rw [forC_go (s := lbS at_ m none) (h := [six, .lst [.int a]]) rfl (rng_at 1 _ (by decide)) rfl b3]
    rw [forC_go (s := lbS at_ m none) (h := [six, .lst [.int a, .int b]]) rfl (rng_at 2 _ (by decide)) rfl c3]
    rw [forC_go (s := lbS at_ m none) (h := [six, .lst [.int a, .int b, .int c]]) rfl (rng_at 3 _ (by decide)) rfl d3]
    rw [forC_go (s := lbS at_ m none) (h := [six, .lst [.int a, .int b, .int c, .int d]]) rfl (rng_at 4 _ (by decide)) rfl e3]
    rw [forC_go (s := lbS at_ m none) (h := [six, .lst [.int a, .int b, .int c, .int d, .int e]]) rfl (rng_at 5 _ (by decide)) rfl f3]
    exact forC_end rfl rfl
  simp [_law_book, D__law_book, fnD, r3, m3]
  rw [loop]
  simp [kTuple, toRs]
  rfl
/-! ### the nearest rankings -/
def six0 : List Int := [0, 1, 2, 3, 4, 5]
theorem rng6 : rngV 0 6 = six0.map Va.int := rfl
def nearP (xs : List Int) (M : Int) : Va → Bool
  | .int i => decide (xs.getD i.toNat 0 = M)
  | _ => false
def nearI (a b c d e f : Int) : List Int := six0.filter ((nearP [farI a b c d e f 0, farI a b c d e f 1, farI a b c d e f 2, farI a b c d e f 3, farI a b c d e f 4, farI a b c d e f 5] (minI (farI a b c d e f 0) [farI a b c d e f 1, farI a b c d e f 2, farI a b c d e f 3, farI a b c d e f 4, farI a b c d e f 5])) ∘ Va.int)
abbrev rowsV (a b c d e f : Int) : List Va := [.int (farI a b c d e f 0), .int (farI a b c d e f 1), .int (farI a b c d e f 2), .int (farI a b c d e f 3), .int (farI a b c d e f 4), .int (farI a b c d e f 5)]
theorem far_call (a b c d e f : Int) (hb : ∀ x ∈ [a, b, c, d, e, f], 0 ≤ x ∧ x ≤ 99) (j : Nat) (hj : j < 6) (h : Hs) : callD far [Bk a b c d e f, wv j] h = .ok (.int (farI a b c d e f j)) h :=
  callD_flat (by rcases lt6 hj with rfl | rfl | rfl | rfl | rfl | rfl <;> rfl) (by rcases lt6 hj with rfl | rfl | rfl | rfl | rfl | rfl <;> rfl) rfl (far_ok a b c d e f hb j hj)
/-- the comprehension of the nearest: rows at ref r, in slot x; the number's slot y -/
theorem near_comp (a b c d e f : Int) (x y r : Nat) (s : Sg) (h : Hs) (hx : ∀ z, ((wipeS s [y]).set y (some z))[x]? = some (some (.ref r))) (hy : ∀ z, ((wipeS s [y]).set y (some z))[y]? = some (some z)) (hr : h[r]? = some (.lst (rowsV a b c d e f))) :
    dComp [y] (dRng1 (aCons (dC (.int 6)) aNil)) (.nm y) (dTest (dOp kEq (dOp kIxU (dVar x) (dVar y)) (dB kMin (aCons (dVar x) aNil)))) (dVar y) s h = .ok (.ref h.length) (h ++ [.lst ((nearI a b c d e f).map Va.int)]) := by
  rw [comp_rng [y] _ 0 6 _ _ _ s h (nearP [farI a b c d e f 0, farI a b c d e f 1, farI a b c d e f 2, farI a b c d e f 3, farI a b c d e f 4, farI a b c d e f 5] (minI (farI a b c d e f 0) [farI a b c d e f 1, farI a b c d e f 2, farI a b c d e f 3, farI a b c d e f 4, farI a b c d e f 5])) id rfl (by decide) ?_]
  · rw [rng6, List.filter_map, List.map_id]; rfl
  · intro z hz
    refine ⟨_, rfl, ?_, fun _ => by rw [ev_var, hy z]; rfl⟩
    have e1 : ∀ v, kIxU (.ref r) z h = some (v, h) → ∀ M, kMin [.ref r] h = some (.int M, h) → dTest (dOp kEq (dOp kIxU (dVar x) (dVar y)) (dB kMin (aCons (dVar x) aNil))) ((wipeS s [y]).set y (some z)) h = (liftO (kEq v (.int M) h)).bind isB := by
      intro v e2 M e3
      simp only [ev_test, ev_op, ev_var, hx z, hy z, ev_bind_ok, e2, ev_lift_some, ev_B, ev_cons, ev_nil, e3]
    have e3 : kMin [.ref r] h = some (.int (minI (farI a b c d e f 0) [farI a b c d e f 1, farI a b c d e f 2, farI a b c d e f 3, farI a b c d e f 4, farI a b c d e f 5]), h) := by
      simp [kMin, hr]
    rw [rng6] at hz
    simp only [six0, List.map_cons, List.map_nil, List.mem_cons, List.not_mem_nil, or_false] at hz
    rcases hz with rfl | rfl | rfl | rfl | rfl | rfl
    · rw [e1 (.int (farI a b c d e f 0)) (by simp only [kIxU, kIx, hr]; rfl) _ e3]; simp [nearP]
    · rw [e1 (.int (farI a b c d e f 1)) (by simp only [kIxU, kIx, hr]; rfl) _ e3]; simp [nearP]
    · rw [e1 (.int (farI a b c d e f 2)) (by simp only [kIxU, kIx, hr]; rfl) _ e3]; simp [nearP]
    · rw [e1 (.int (farI a b c d e f 3)) (by simp only [kIxU, kIx, hr]; rfl) _ e3]; simp [nearP]
    · rw [e1 (.int (farI a b c d e f 4)) (by simp only [kIxU, kIx, hr]; rfl) _ e3]; simp [nearP]
    · rw [e1 (.int (farI a b c d e f 5)) (by simp only [kIxU, kIx, hr]; rfl) _ e3]; simp [nearP]
theorem nearest_ok (a b c d e f : Int) (hb : ∀ x ∈ [a, b, c, d, e, f], 0 ≤ x ∧ x ≤ 99) (h : Hs) : callD nearest [Bk a b c d e f] h = .ok (.ref h.length) (h ++ [.lst ((nearI a b c d e f).map Va.int)]) := by
  refine callD_list rfl rfl (rens_ints _ _) ?_
  have w : ∀ h', callD look_book [Bk a b c d e f] h' = .ok .non h' := fun h' => callD_flat rfl rfl rfl (look_book_ok a b c d e f hb)
  have w2 := fun j hj => far_call a b c d e f hb j hj
  have e0 : c_WISHES = .tup [wv 0, wv 1, wv 2, wv 3, wv 4, wv 5] := rfl
  have e1 := near_comp a b c d e f 1 3 0 [some (Bk a b c d e f), some (.ref 0), none, none] [.lst (rowsV a b c d e f)] (fun _ => rfl) (fun _ => rfl) rfl
  have c1 : dComp [2] (dIt (dC c_WISHES)) (.nm 2) dYes (dCall far 2 (aCons (dVar 0) (aCons (dVar 2) aNil))) [some (Bk a b c d e f), none, none, none] [] = .ok (.ref 0) [.lst (rowsV a b c d e f)] := by
    simp [e0, w2]
  simp [-ev_comp, nearest, D_nearest, fnD, w, c1, e1, toRs]
  exact compact_second _ _
end Pg

set_option Elab.async false
set_option linter.all false
set_option maxRecDepth 100000
set_option maxHeartbeats 4000000
set_option autoImplicit false
namespace Wr
open PySem PySem.Spec PyProof.Rows L2
theorem seqN {f g : Ds} {s s1 : Sg} {h h1 : Hs} (e : f s h = .nx s1 h1) : dSeq f g s h = g s1 h1 := by unfold dSeq; rw [e]
theorem stepC {f g : Ds} {s : Sg} (s1 : Sg) {h : Hs} (h1 : Hs) {n : Nat} {R : Rs Va} (e : f s h = .nx s1 h1) (k : compact n (toRs (g s1 h1)) = R) : compact n (toRs (dSeq f g s h)) = R := by rw [seqN e]; exact k
theorem stepR {f g : Ds} {s : Sg} {h : Hs} (v : Va) (h1 : Hs) {n : Nat} {R : Rs Va} (e : f s h = .rt v h1) (k : compact n (.ok v h1) = R) : compact n (toRs (dSeq f g s h)) = R := by unfold dSeq; rw [e]; exact k
theorem ifT {t : Dt} {f k : Ds} {s : Sg} {h : Hs} (h1 : Hs) {r : RS} (e : t s h = .ok true h1) (q : f s h1 = r) : dIfS t f k s h = r := by unfold dIfS; rw [e]; exact q
theorem ifF {t : Dt} {f k : Ds} {s : Sg} {h : Hs} (h1 : Hs) {r : RS} (e : t s h = .ok false h1) (q : k s h1 = r) : dIfS t f k s h = r := by unfold dIfS; rw [e]; exact q
theorem stepS {f g : Ds} {s : Sg} (s1 : Sg) {h : Hs} (h1 : Hs) {r : RS} (e : f s h = .nx s1 h1) (k : g s1 h1 = r) : dSeq f g s h = r := by rw [seqN e]; exact k
theorem compact_bl (b : Bool) (h : Hs) : ∃ h', compact 0 (.ok (.bl b) h) = .ok (.bl b) h' := by
  unfold compact
  by_cases hl : (h.length == 0) = true
  · exact ⟨h, by simp only; rw [if_pos hl]⟩
  · refine ⟨[], ?_⟩
    simp only
    rw [if_neg hl]
    have e : lastM 0 (.bl b) h = [] := by simp [lastM, refsV, reach]
    rw [e]
    rfl
end Wr
namespace Pg
open PySem PySem.Spec PyProof.Rows L2 Wr
section
variable (a b c d e f : Int)
abbrev Bok (a b c d e f : Int) : Prop := ∀ x ∈ [a, b, c, d, e, f], 0 ≤ x ∧ x ≤ 99
theorem look_call (hb : Bok a b c d e f) (h : Hs) : callD look_book [Bk a b c d e f] h = .ok .non h := callD_flat rfl rfl rfl (look_book_ok a b c d e f hb)
theorem thing_call (i : Nat) (hi : i < 3) (h : Hs) : callD look_thing [.int i] h = .ok .non h := by
  rcases lt3 hi with rfl | rfl | rfl <;> exact callD_flat rfl rfl rfl (by kernel_rfl)
theorem turned_ok (hb : Bok a b c d e f) (h : Hs) : callD turned [Bk a b c d e f] h = .ok (Bk f d e b c a) h := by
  refine callD_flat rfl rfl rfl ?_
  have w := look_call a b c d e f hb []
  have e1 : dExpr (dCall look_book 1 (aCons (dVar 0) aNil)) [some (Bk a b c d e f), none] [] = .nx [some (Bk a b c d e f), none] [] := by simp [w]
  show compact 0 (toRs (dSeq (dExpr (dCall look_book 1 (aCons (dVar 0) aNil))) _ [some (Bk a b c d e f), none] [])) = _
  rw [seqN e1]
  kernel_rfl
theorem size_ok (hb : Bok a b c d e f) (h : Hs) : callD size [Bk a b c d e f] h = .ok (.int (a + (b + (c + (d + (e + (f + 0))))))) h := by
  refine callD_flat rfl rfl rfl ?_
  have w := look_call a b c d e f hb []
  have e1 : dExpr (dCall look_book 1 (aCons (dVar 0) aNil)) [some (Bk a b c d e f)] [] = .nx [some (Bk a b c d e f)] [] := by simp [w]
  show compact 0 (toRs (dSeq (dExpr (dCall look_book 1 (aCons (dVar 0) aNil))) _ [some (Bk a b c d e f)] [])) = _
  rw [seqN e1]
  kernel_rfl
theorem ahead_call (hb : Bok a b c d e f) (i j : Nat) (hi : i < 3) (hj : j < 3) (h : Hs) : callD ahead [Bk a b c d e f, .int i, .int j] h = .ok (.int (ahI a b c d e f i j)) h := by
  refine callD_flat rfl rfl rfl ?_
  have w := look_call a b c d e f hb []
  have w1 := thing_call i hi []
  have w2 := thing_call j hj []
  have w3 := ahead_ok a b c d e f i j hi hj []
  simp [ahead, D_ahead, fnD, w, w1, w2, w3, toRs]
  rfl
/-- how often a thing stands first, second, last -/
abbrev stV : Va := .tup [.tup [.int (0 + a + b), .int (0 + c + e), .int (0 + d + f)], .tup [.int (0 + c + d), .int (0 + a + f), .int (0 + b + e)], .tup [.int (0 + e + f), .int (0 + b + d), .int (0 + a + c)]]
theorem standings_ok (hb : Bok a b c d e f) (h : Hs) : callD standings [Bk a b c d e f] h = .ok (stV a b c d e f) h := by
  refine callD_flat rfl rfl rfl ?_
  have w := look_call a b c d e f hb []
  have e1 : dExpr (dCall look_book 1 (aCons (dVar 0) aNil)) [some (Bk a b c d e f), none, none, none, none, none] [] = .nx [some (Bk a b c d e f), none, none, none, none, none] [] := by simp [w]
  show compact 0 (toRs (dSeq (dExpr (dCall look_book 1 (aCons (dVar 0) aNil))) _ [some (Bk a b c d e f), none, none, none, none, none] [])) = _
  rw [seqN e1]
  kernel_rfl
theorem plus_ok (a' b' c' d' e' f' : Int) (hb : Bok a b c d e f) (hb' : Bok a' b' c' d' e' f') (hs : Bok (a + a') (b + b') (c + c') (d + d') (e + e') (f + f')) (h : Hs) :
    callD plus [Bk a b c d e f, Bk a' b' c' d' e' f'] h = .ok (Bk (a + a') (b + b') (c + c') (d + d') (e + e') (f + f')) h := by
  refine callD_flat rfl rfl rfl ?_
  have w := fun h => look_call a b c d e f hb h
  have w1 := fun h => look_call a' b' c' d' e' f' hb' h
  have w2 := fun h => look_call _ _ _ _ _ _ hs h
  simp [plus, D_plus, fnD, w, w1, w2, zipV, kTuple, toRs]
  rfl
/-! ### points -/
abbrev ptsR (p q r : Int) : Va := .tup [.str (Str.mk #[112, 111, 105, 110, 116, 115]), .tup [.int p, .int q, .int r]]
theorem pts_rule (p q r : Int) (hp : 0 ≤ p ∧ p ≤ 9) (hq : 0 ≤ q ∧ q ≤ 9) (hr : 0 ≤ r ∧ r ≤ 9) (h : Hs) : callD is_rule [ptsR p q r] h = .ok (.bl true) h := by
  refine callD_flat rfl rfl rfl ?_
  have w : ∀ (x : Int) (h : Hs), 0 ≤ x ∧ x ≤ 9 → callD is_whole [.int x, .int 0, .int 9] h = .ok (.bl true) h := fun x h hx => callD_flat rfl rfl rfl (whole_ok x 0 9 hx.1 hx.2)
  have k : is_rule_in 4 [ptsR p q r, .int 3] [] = .ok (.bl true) [] := by
    unfold is_rule_in D_is_rule_in fnD
    refine stepC [some (ptsR p q r), some (.int 3), none, none, none] [] (by kernel_rfl) ?_
    refine stepC [some (ptsR p q r), some (.int 3), some (.str (Str.mk #[112, 111, 105, 110, 116, 115])), none, none] [] (by kernel_rfl) ?_
    refine stepC [some (ptsR p q r), some (.int 3), some (.str (Str.mk #[112, 111, 105, 110, 116, 115])), none, none] [] (by kernel_rfl) ?_
    refine stepR (.bl true) [.lst [.bl true, .bl true, .bl true]] (ifT [] (by kernel_rfl) (stepS [some (ptsR p q r), some (.int 3), some (.str (Str.mk #[112, 111, 105, 110, 116, 115])), some (.tup [.int p, .int q, .int r]), none] [] (by kernel_rfl) ?_)) (by kernel_rfl)
    simp [c_MOST_POINTS, w, hp, hq, hr]
  have k2 : ∀ h, callD (is_rule_in 4) [ptsR p q r, .int 3] h = .ok (.bl true) h := fun h => callD_flat rfl rfl rfl k
  simp [is_rule, D_is_rule, fnD, c_DEEPEST, k2, toRs]
  rfl
theorem scores_ok (hb : Bok a b c d e f) (p q r : Int) (hp : 0 ≤ p ∧ p ≤ 9) (hq : 0 ≤ q ∧ q ≤ 9) (hr : 0 ≤ r ∧ r ≤ 9) (h : Hs) : callD scores [.tup [.int p, .int q, .int r], Bk a b c d e f] h =
    .ok (.tup [.int ((a + b) * p + ((c + e) * q + (d + f) * r)), .int ((c + d) * p + ((a + f) * q + (b + e) * r)), .int ((e + f) * p + ((b + d) * q + (a + c) * r))]) h := by
  refine callD_flat rfl rfl rfl ?_
  have w := fun h => pts_rule p q r hp hq hr h
  have w1 := fun h => standings_ok a b c d e f hb h
  have p1 : -18446744073709551616 < p := by omega
  have p2 : p < 18446744073709551616 := by omega
  have q1 : -18446744073709551616 < q := by omega
  have q2 : q < 18446744073709551616 := by omega
  have r1 : -18446744073709551616 < r := by omega
  have r2 : r < 18446744073709551616 := by omega
  simp [scores, D_scores, fnD, w, w1, zipV, kTuple, toRs, p1, p2, q1, q2, r1, r2]
  rfl
end
end Pg

set_option Elab.async false
set_option linter.all false
set_option maxRecDepth 100000
set_option maxHeartbeats 4000000
set_option autoImplicit false
namespace K03
open PySem PySem.Spec PyProof.Rows L2 Wr Pg

/-! ### the text -/
def top (i : Nat) : Stmt := PySem.Challenge.pw_wishrules_k03_whole_books_led.main.body.getD i (.Pass ⟨0, 0, 0, 0⟩)
abbrev s__law_cell : Stmt := top 22
abbrev s__law_pick : Stmt := top 23
abbrev s__law_book : Stmt := top 25
abbrev s__law_wishes : Stmt := top 24
abbrev s_is_whole : Stmt := top 8
abbrev s_is_book : Stmt := top 9
abbrev s_look_book : Stmt := top 10
abbrev s_is_wish : Stmt := top 11
abbrev s_renamed : Stmt := top 16
abbrev s_turned : Stmt := top 15
abbrev s_plus : Stmt := top 14
abbrev s_size : Stmt := top 13
abbrev s_look_thing : Stmt := top 12
abbrev s_ahead_in : Stmt := top 18
abbrev s_ahead : Stmt := top 17
abbrev s_lifted_wish : Stmt := top 19
abbrev s_lifted : Stmt := top 20
abbrev s_law : Stmt := top 27
structure Ft (g : Gd) (mg : Str → Option Value) : Prop where
  b_all : mg "all" = none
  b_bool : mg "bool" = none
  b_int : mg "int" = none
  b_isinstance : mg "isinstance" = none
  b_len : mg "len" = none
  b_list : mg "list" = none
  b_min : mg "min" = none
  b_range : mg "range" = none
  b_sorted : mg "sorted" = none
  b_sum : mg "sum" = none
  b_tuple : mg "tuple" = none
  b_zip : mg "zip" = none
  f__law_cell : mg "_law_cell" = some (.ref (He.ga g.K "_law_cell"))
  d__law_cell : FnP g.K "_law_cell" s__law_cell
  f__law_pick : mg "_law_pick" = some (.ref (He.ga g.K "_law_pick"))
  d__law_pick : FnP g.K "_law_pick" s__law_pick
  f__law_book : mg "_law_book" = some (.ref (He.ga g.K "_law_book"))
  d__law_book : FnP g.K "_law_book" s__law_book
  f__law_wishes : mg "_law_wishes" = some (.ref (He.ga g.K "_law_wishes"))
  d__law_wishes : FnP g.K "_law_wishes" s__law_wishes
  f_is_whole : mg "is_whole" = some (.ref (He.ga g.K "is_whole"))
  d_is_whole : FnP g.K "is_whole" s_is_whole
  f_is_book : mg "is_book" = some (.ref (He.ga g.K "is_book"))
  d_is_book : FnP g.K "is_book" s_is_book
  f_look_book : mg "look_book" = some (.ref (He.ga g.K "look_book"))
  d_look_book : FnP g.K "look_book" s_look_book
  f_is_wish : mg "is_wish" = some (.ref (He.ga g.K "is_wish"))
  d_is_wish : FnP g.K "is_wish" s_is_wish
  f_renamed : mg "renamed" = some (.ref (He.ga g.K "renamed"))
  d_renamed : FnP g.K "renamed" s_renamed
  f_turned : mg "turned" = some (.ref (He.ga g.K "turned"))
  d_turned : FnP g.K "turned" s_turned
  f_plus : mg "plus" = some (.ref (He.ga g.K "plus"))
  d_plus : FnP g.K "plus" s_plus
  f_size : mg "size" = some (.ref (He.ga g.K "size"))
  d_size : FnP g.K "size" s_size
  f_look_thing : mg "look_thing" = some (.ref (He.ga g.K "look_thing"))
  d_look_thing : FnP g.K "look_thing" s_look_thing
  f_ahead_in : mg "ahead_in" = some (.ref (He.ga g.K "ahead_in"))
  d_ahead_in : FnP g.K "ahead_in" s_ahead_in
  f_ahead : mg "ahead" = some (.ref (He.ga g.K "ahead"))
  d_ahead : FnP g.K "ahead" s_ahead
  f_lifted_wish : mg "lifted_wish" = some (.ref (He.ga g.K "lifted_wish"))
  d_lifted_wish : FnP g.K "lifted_wish" s_lifted_wish
  f_lifted : mg "lifted" = some (.ref (He.ga g.K "lifted"))
  d_lifted : FnP g.K "lifted" s_lifted
  f_law : mg "law" = some (.ref (He.ga g.K "law"))
  d_law : FnP g.K "law" s_law
  c_GREATEST : Con1 g mg "GREATEST" c_GREATEST
  c_WISHES : Con1 g mg "WISHES" c_WISHES
/-! ### what the law does -/
def P_law_1 (F_renamed : Fn) (F_ahead : Fn) : Ds :=
    (dIfS (dTest (dOp kNe (dCall F_ahead 3 (aCons (dCall F_renamed 2 (aCons (dVar 1) (aCons (dVar 4) aNil))) (aCons (dOp kIxU (dVar 4) (dVar 8)) (aCons (dOp kIxU (dVar 4) (dVar 9)) aNil)))) (dVar 10))) (dRet (dC (.bl false))) dNx)
def P_law_2 (F_turned : Fn) (F_ahead : Fn) : Ds :=
    (dIfS (dOr (dTest (dOp kNe (dCall F_ahead 3 (aCons (dVar 7) (aCons (dVar 8) (aCons (dVar 9) aNil)))) (dOp kAdd (dVar 10) (dCall F_ahead 3 (aCons (dVar 3) (aCons (dVar 8) (aCons (dVar 9) aNil))))))) (dTest (dOp kNe (dCall F_ahead 3 (aCons (dCall F_turned 1 (aCons (dVar 1) aNil)) (aCons (dVar 9) (aCons (dVar 8) aNil)))) (dVar 10)))) (dRet (dC (.bl false))) dNx)
def P_law_3 (F_renamed : Fn) (F_turned : Fn) (F_ahead : Fn) : Ds :=
    (dSeq (P_law_2 F_turned F_ahead)
    (dDrop [0, 1, 3, 4, 7, 8, 9, 10] (P_law_1 F_renamed F_ahead)))
def P_law_4 (F_size : Fn) (F_ahead : Fn) : Ds :=
    (dIfS (dOr (dAnd (dTest (dOp kNe (dVar 8) (dVar 9))) (dTest (dOp kNe (dOp kAdd (dVar 10) (dCall F_ahead 3 (aCons (dVar 1) (aCons (dVar 9) (aCons (dVar 8) aNil))))) (dCall F_size 1 (aCons (dVar 1) aNil))))) (dAnd (dTest (dOp kEq (dVar 8) (dVar 9))) (dTest (dOp kNe (dVar 10) (dC (.int 0)))))) (dRet (dC (.bl false))) dNx)
def P_law_5 (F_renamed : Fn) (F_turned : Fn) (F_size : Fn) (F_ahead : Fn) : Ds :=
    (dSeq (P_law_4 F_size F_ahead)
    (dDrop [0, 1, 3, 4, 7, 8, 9, 10] (P_law_3 F_renamed F_turned F_ahead)))
def P_law_6 (F_ahead : Fn) : Ds :=
    (dSet 10 (dCall F_ahead 3 (aCons (dVar 1) (aCons (dVar 8) (aCons (dVar 9) aNil)))))
def P_law_7 (F_renamed : Fn) (F_turned : Fn) (F_size : Fn) (F_ahead : Fn) : Ds :=
    (dSeq (P_law_6 F_ahead)
    (dDrop [0, 1, 3, 4, 7, 8, 9, 10] (P_law_5 F_renamed F_turned F_size F_ahead)))
def P_law_8 (F_renamed : Fn) (F_turned : Fn) (F_size : Fn) (F_ahead : Fn) : Ds :=
    (dForC [0, 1, 3, 4, 7, 8] (dRng1 (aCons (dC (.int 3)) aNil)) (.nm 9) (P_law_7 F_renamed F_turned F_size F_ahead))
def P_law_9 (F_ahead : Fn) : Ds :=
    (dRet (dOp kEq (dCall F_ahead 3 (aCons (dVar 12) (aCons (dOp kIxU (dVar 14) (dC (.int 0))) (aCons (dOp kIxU (dVar 14) (dC (.int 1))) aNil)))) (dCall F_ahead 3 (aCons (dVar 1) (aCons (dOp kIxU (dVar 14) (dC (.int 0))) (aCons (dOp kIxU (dVar 14) (dC (.int 1))) aNil))))))
def P_law_10 : Ds :=
    (dSet 14 (dComp [8] (dRng1 (aCons (dC (.int 3)) aNil)) (.nm 8) (dTest (dOp kNe (dVar 8) (dVar 6))) (dVar 8)))
def P_law_11 (F__law_wishes : Fn) (F_size : Fn) : Ds :=
    (dIfS (dOr (dTest (dOp kNe (dB kSortA (aCons (dVar 13) aNil)) (dLst (aCons (dC (.int 0)) (aCons (dB kInt (aCons (dOp kNe (dOp kIxU (dOp kIxU (dCall0 F__law_wishes) (dVar 11)) (dC (.int 0))) (dVar 6)) aNil)) aNil))))) (dTest (dOp kNe (dCall F_size 1 (aCons (dVar 12) aNil)) (dCall F_size 1 (aCons (dVar 1) aNil))))) (dRet (dC (.bl false))) dNx)
def P_law_12 (F__law_wishes : Fn) (F_size : Fn) (F_ahead : Fn) : Ds :=
    (dSeq (P_law_11 F__law_wishes F_size)
    (dDrop [1, 6, 12] (dSeq P_law_10
    (dDrop [1, 12, 14] (P_law_9 F_ahead)))))
def P_law_13 (F_ahead : Fn) : Ds :=
    (dSet 13 (dComp [8] (dRng1 (aCons (dC (.int 3)) aNil)) (.nm 8) (dTest (dOp kNe (dVar 8) (dVar 6))) (dOp kSub (dCall F_ahead 3 (aCons (dVar 12) (aCons (dVar 6) (aCons (dVar 8) aNil)))) (dCall F_ahead 3 (aCons (dVar 1) (aCons (dVar 6) (aCons (dVar 8) aNil)))))))
def P_law_14 (F__law_wishes : Fn) (F_size : Fn) (F_ahead : Fn) : Ds :=
    (dSeq (P_law_13 F_ahead)
    (dDrop [1, 6, 11, 12, 13] (P_law_12 F__law_wishes F_size F_ahead)))
def P_law_15 (F_lifted : Fn) : Ds :=
    (dSet 12 (dCall F_lifted 3 (aCons (dVar 1) (aCons (dVar 11) (aCons (dVar 6) aNil)))))
def P_law_16 (F__law_wishes : Fn) (F_size : Fn) (F_ahead : Fn) (F_lifted : Fn) : Ds :=
    (dSeq (P_law_15 F_lifted)
    (dDrop [1, 6, 11, 12] (P_law_14 F__law_wishes F_size F_ahead)))
def P_law_17 : Ds :=
    (dIfS (dTest (dOp kEq (dOp kIxU (dVar 1) (dVar 11)) (dC (.int 0)))) (dRet (dC (.bl true))) dNx)
def P_law_18 (F__law_wishes : Fn) (F_size : Fn) (F_ahead : Fn) (F_lifted : Fn) : Ds :=
    (dSeq P_law_17
    (dDrop [1, 6, 11] (P_law_16 F__law_wishes F_size F_ahead F_lifted)))
def P_law_19 (F__law_pick : Fn) : Ds :=
    (dAsgT (.tp [11, 6]) (dTup (aCons (dCall F__law_pick 3 (aCons (dVar 0) (aCons (dC (.int 3)) (aCons (dC (.int 6)) aNil)))) (aCons (dCall F__law_pick 3 (aCons (dVar 0) (aCons (dC (.int 4)) (aCons (dC (.int 3)) aNil)))) aNil))))
def P_law_20 (F__law_wishes : Fn) (F__law_pick : Fn) (F_size : Fn) (F_ahead : Fn) (F_lifted : Fn) : Ds :=
    (dSeq (P_law_19 F__law_pick)
    (dDrop [1, 6, 11] (P_law_18 F__law_wishes F_size F_ahead F_lifted)))
def P_law_21 (F_renamed : Fn) (F_turned : Fn) (F_size : Fn) (F_ahead : Fn) : Ds :=
    (dForC [0, 1, 3, 4, 7] (dRng1 (aCons (dC (.int 3)) aNil)) (.nm 8) (P_law_8 F_renamed F_turned F_size F_ahead))
def P_law_22 (F__law_wishes : Fn) (F__law_pick : Fn) (F_renamed : Fn) (F_turned : Fn) (F_size : Fn) (F_ahead : Fn) (F_lifted : Fn) : Ds :=
    (dSeq (P_law_21 F_renamed F_turned F_size F_ahead)
    (dDrop [0, 1] (P_law_20 F__law_wishes F__law_pick F_size F_ahead F_lifted)))
def P_law_23 (F_renamed : Fn) (F_plus : Fn) : Ds :=
    (dIfS (dTest (dOp kNe (dCall F_renamed 2 (aCons (dVar 7) (aCons (dVar 4) aNil))) (dCall F_plus 2 (aCons (dCall F_renamed 2 (aCons (dVar 1) (aCons (dVar 4) aNil))) (aCons (dCall F_renamed 2 (aCons (dVar 3) (aCons (dVar 4) aNil))) aNil))))) (dRet (dC (.bl false))) dNx)
def P_law_24 (F__law_wishes : Fn) (F__law_pick : Fn) (F_renamed : Fn) (F_turned : Fn) (F_plus : Fn) (F_size : Fn) (F_ahead : Fn) (F_lifted : Fn) : Ds :=
    (dSeq (P_law_23 F_renamed F_plus)
    (dDrop [0, 1, 3, 4, 7] (P_law_22 F__law_wishes F__law_pick F_renamed F_turned F_size F_ahead F_lifted)))
def P_law_25 (F_turned : Fn) (F_plus : Fn) : Ds :=
    (dIfS (dTest (dOp kNe (dCall F_turned 1 (aCons (dVar 7) aNil)) (dCall F_plus 2 (aCons (dCall F_turned 1 (aCons (dVar 1) aNil)) (aCons (dCall F_turned 1 (aCons (dVar 3) aNil)) aNil))))) (dRet (dC (.bl false))) dNx)
def P_law_26 (F__law_wishes : Fn) (F__law_pick : Fn) (F_renamed : Fn) (F_turned : Fn) (F_plus : Fn) (F_size : Fn) (F_ahead : Fn) (F_lifted : Fn) : Ds :=
    (dSeq (P_law_25 F_turned F_plus)
    (dDrop [0, 1, 3, 4, 7] (P_law_24 F__law_wishes F__law_pick F_renamed F_turned F_plus F_size F_ahead F_lifted)))
def P_law_27 (F_plus : Fn) (F_size : Fn) : Ds :=
    (dIfS (dOr (dTest (dOp kNe (dVar 7) (dCall F_plus 2 (aCons (dVar 3) (aCons (dVar 1) aNil))))) (dTest (dOp kNe (dCall F_size 1 (aCons (dVar 7) aNil)) (dOp kAdd (dCall F_size 1 (aCons (dVar 1) aNil)) (dCall F_size 1 (aCons (dVar 3) aNil)))))) (dRet (dC (.bl false))) dNx)
def P_law_28 (F__law_wishes : Fn) (F__law_pick : Fn) (F_renamed : Fn) (F_turned : Fn) (F_plus : Fn) (F_size : Fn) (F_ahead : Fn) (F_lifted : Fn) : Ds :=
    (dSeq (P_law_27 F_plus F_size)
    (dDrop [0, 1, 3, 4, 7] (P_law_26 F__law_wishes F__law_pick F_renamed F_turned F_plus F_size F_ahead F_lifted)))
def P_law_29 (F_plus : Fn) : Ds :=
    (dSet 7 (dCall F_plus 2 (aCons (dVar 1) (aCons (dVar 3) aNil))))
def P_law_30 (F__law_wishes : Fn) (F__law_pick : Fn) (F_renamed : Fn) (F_turned : Fn) (F_plus : Fn) (F_size : Fn) (F_ahead : Fn) (F_lifted : Fn) : Ds :=
    (dSeq (P_law_29 F_plus)
    (dDrop [0, 1, 3, 4, 7] (P_law_28 F__law_wishes F__law_pick F_renamed F_turned F_plus F_size F_ahead F_lifted)))
def P_law_31 (F_renamed : Fn) (F_turned : Fn) : Ds :=
    (dIfS (dOr (dTest (dOp kNe (dCall F_turned 1 (aCons (dCall F_turned 1 (aCons (dVar 1) aNil)) aNil)) (dVar 1))) (dTest (dOp kNe (dCall F_turned 1 (aCons (dCall F_renamed 2 (aCons (dVar 1) (aCons (dVar 4) aNil))) aNil)) (dCall F_renamed 2 (aCons (dCall F_turned 1 (aCons (dVar 1) aNil)) (aCons (dVar 4) aNil)))))) (dRet (dC (.bl false))) dNx)
def P_law_32 (F__law_wishes : Fn) (F__law_pick : Fn) (F_renamed : Fn) (F_turned : Fn) (F_plus : Fn) (F_size : Fn) (F_ahead : Fn) (F_lifted : Fn) : Ds :=
    (dSeq (P_law_31 F_renamed F_turned)
    (dDrop [0, 1, 3, 4] (P_law_30 F__law_wishes F__law_pick F_renamed F_turned F_plus F_size F_ahead F_lifted)))
def P_law_33 (F_renamed : Fn) : Ds :=
    (dIfS (dTest (dOp kNe (dCall F_renamed 2 (aCons (dCall F_renamed 2 (aCons (dVar 1) (aCons (dVar 4) aNil))) (aCons (dVar 5) aNil))) (dCall F_renamed 2 (aCons (dVar 1) (aCons (dB kTuple (aCons (dComp [6] (dRng1 (aCons (dC (.int 3)) aNil)) (.nm 6) dYes (dOp kIxU (dVar 5) (dOp kIxU (dVar 4) (dVar 6)))) aNil)) aNil))))) (dRet (dC (.bl false))) dNx)
def P_law_34 (F__law_wishes : Fn) (F__law_pick : Fn) (F_renamed : Fn) (F_turned : Fn) (F_plus : Fn) (F_size : Fn) (F_ahead : Fn) (F_lifted : Fn) : Ds :=
    (dSeq (P_law_33 F_renamed)
    (dDrop [0, 1, 3, 4] (P_law_32 F__law_wishes F__law_pick F_renamed F_turned F_plus F_size F_ahead F_lifted)))
def P_law_35 (F__law_wishes : Fn) (F__law_pick : Fn) : Ds :=
    (dAsgT (.tp [4, 5]) (dTup (aCons (dOp kIxU (dCall0 F__law_wishes) (dCall F__law_pick 3 (aCons (dVar 0) (aCons (dC (.int 1)) (aCons (dC (.int 6)) aNil))))) (aCons (dOp kIxU (dCall0 F__law_wishes) (dCall F__law_pick 3 (aCons (dVar 0) (aCons (dC (.int 2)) (aCons (dC (.int 6)) aNil))))) aNil))))
def P_law_36 (F__law_wishes : Fn) (F__law_pick : Fn) (F_renamed : Fn) (F_turned : Fn) (F_plus : Fn) (F_size : Fn) (F_ahead : Fn) (F_lifted : Fn) : Ds :=
    (dSeq (P_law_35 F__law_wishes F__law_pick)
    (dDrop [0, 1, 3, 4, 5] (P_law_34 F__law_wishes F__law_pick F_renamed F_turned F_plus F_size F_ahead F_lifted)))
def P_law_37 (F__law_book : Fn) : Ds :=
    (dSet 3 (dB kTuple (aCons (dComp [2] (dIt (dCall F__law_book 2 (aCons (dVar 0) (aCons (dC (.int 30)) aNil)))) (.nm 2) dYes (dB kMin (aCons (dC (.int 49)) (aCons (dVar 2) aNil)))) aNil)))
def P_law_38 (F__law_book : Fn) (F__law_wishes : Fn) (F__law_pick : Fn) (F_renamed : Fn) (F_turned : Fn) (F_plus : Fn) (F_size : Fn) (F_ahead : Fn) (F_lifted : Fn) : Ds :=
    (dSeq (P_law_37 F__law_book)
    (dDrop [0, 1, 3] (P_law_36 F__law_wishes F__law_pick F_renamed F_turned F_plus F_size F_ahead F_lifted)))
def P_law_39 (F__law_book : Fn) : Ds :=
    (dSet 1 (dB kTuple (aCons (dComp [2] (dIt (dCall F__law_book 2 (aCons (dVar 0) (aCons (dC (.int 10)) aNil)))) (.nm 2) dYes (dB kMin (aCons (dC (.int 49)) (aCons (dVar 2) aNil)))) aNil)))
def P_law_40 (F__law_book : Fn) (F__law_wishes : Fn) (F__law_pick : Fn) (F_renamed : Fn) (F_turned : Fn) (F_plus : Fn) (F_size : Fn) (F_ahead : Fn) (F_lifted : Fn) : Ds :=
    (dSeq (P_law_39 F__law_book)
    (dDrop [0, 1] (P_law_38 F__law_book F__law_wishes F__law_pick F_renamed F_turned F_plus F_size F_ahead F_lifted)))
def D_law (F__law_book : Fn) (F__law_wishes : Fn) (F__law_pick : Fn) (F_renamed : Fn) (F_turned : Fn) (F_plus : Fn) (F_size : Fn) (F_ahead : Fn) (F_lifted : Fn) : Fn := fnD 15
    (P_law_40 F__law_book F__law_wishes F__law_pick F_renamed F_turned F_plus F_size F_ahead F_lifted)

def law (ns : List Int) : Fn := D_law (_law_book ns) _law_wishes (_law_pick ns) renamed turned plus size ahead lifted
/-! ### that each def does so -/
theorem sc__law_cell : FnScope ["script", "k"] ["script", "k"] (defScope s__law_cell) := ⟨rfl, rfl, rfl, by decide +kernel, rfl, by decide +kernel, by decide +kernel⟩
theorem bi__law_cell : BindsAll "_law_cell" s__law_cell ["script", "k"] := fun _ _ _ _ _ _ us hl => match us, hl with | [_, _], _ => rfl
theorem ok__law_cell {P : Program} {w : World} {g : Gd} {mg : Str → Option Value} {base : Heap} (t : Ft g mg) {k : Nat} : Okf P w g mg base (k + 1) "_law_cell" ["script", "k"] 2 (D__law_cell g.ns) :=
  mk_fn t.d__law_cell t.f__law_cell bi__law_cell sc__law_cell rfl rfl fun f cdv A outer s H E =>
    (b_cons (s_if (t_cmp o_lt p_lt (e_var 1) (e_callB c_len p_lenS t.b_len (a_cons (e_var 0) a_nil))) (b_one (s_ret (e_ixS (e_var 0) (e_var 1)))) b_nil)
    (b_cons (s_if (t_cmp o_eq p_eqS (e_var 0) (e_lst a_nil)) (b_one (s_ret e_int)) b_nil)
    (b_one (s_ret (e_op o_add p_add (e_op o_mul p_mul (e_ixS (e_var 0) (e_op o_mod p_mod (e_var 1) (e_callB c_len p_lenS t.b_len (a_cons (e_var 0) a_nil)))) e_int) (e_var 1))))))

theorem sc__law_pick : FnScope ["script", "k", "many", "drawn"] ["script", "k", "many"] (defScope s__law_pick) := ⟨rfl, rfl, rfl, by decide +kernel, rfl, by decide +kernel, by decide +kernel⟩
theorem bi__law_pick : BindsAll "_law_pick" s__law_pick ["script", "k", "many"] := fun _ _ _ _ _ _ us hl => match us, hl with | [_, _, _], _ => rfl
theorem ok__law_pick {P : Program} {w : World} {g : Gd} {mg : Str → Option Value} {base : Heap} (t : Ft g mg) {k : Nat} {F__law_cell : Fn} (h__law_cell : Okf P w g mg base k "_law_cell" ["script", "k"] 2 F__law_cell) : Okf P w g mg base (k + 1) "_law_pick" ["script", "k", "many"] 3 (D__law_pick F__law_cell) :=
  mk_fn t.d__law_pick t.f__law_pick bi__law_pick sc__law_pick rfl rfl fun f cdv A outer s H E =>
    (b_cons (s_set 3 (e_op o_mod p_mod (e_op o_mul p_mul (e_op o_add p_add (e_callF h__law_cell rfl (a_cons (e_var 0) (a_cons (e_var 1) a_nil))) (e_op o_mul p_mul e_int (e_op o_add p_add (e_var 1) e_int))) e_int) e_int))
    (b_one (s_ret (e_op o_mod p_mod (e_op o_mod p_mod (e_op o_add p_add (e_op o_mul p_mul (e_var 3) (e_var 3)) (e_op o_fdivW p_fdivW (e_var 3) e_int)) e_int) (e_var 2)))))

theorem sc__law_book : FnScope ["script", "at", "most", "made", "k"] ["script", "at"] (defScope s__law_book) := ⟨rfl, rfl, rfl, by decide +kernel, rfl, by decide +kernel, by decide +kernel⟩
theorem bi__law_book : BindsAll "_law_book" s__law_book ["script", "at"] := fun _ _ _ _ _ _ us hl => match us, hl with | [_, _], _ => rfl
theorem ok__law_book {P : Program} {w : World} {g : Gd} {mg : Str → Option Value} {base : Heap} (t : Ft g mg) {k : Nat} {F__law_pick : Fn} (h__law_pick : Okf P w g mg base k "_law_pick" ["script", "k", "many"] 3 F__law_pick) : Okf P w g mg base (k + 1) "_law_book" ["script", "at"] 2 (D__law_book F__law_pick) :=
  mk_fn t.d__law_book t.f__law_book bi__law_book sc__law_book rfl rfl fun f cdv A outer s H E =>
    (b_cons (s_set 2 (e_ixU (e_lst (a_cons e_int (a_cons e_int (a_cons e_int (a_cons e_int (a_cons e_int (a_cons e_int a_nil))))))) (e_callF h__law_pick rfl (a_cons (e_var 0) (a_cons (e_var 1) (a_cons e_int a_nil))))))
    (b_cons (s_set 3 (e_lst a_nil))
    (b_cons (s_forC [0, 1, 2, 3] (i_range1 (b := false) t.b_range (a_cons e_int a_nil)) (g_name 4) (b_one (s_expr (e_append (e_var 3) (a_cons (e_op o_mul p_mul (e_callF h__law_pick rfl (a_cons (e_var 0) (a_cons (e_op o_add p_add (e_op o_add p_add (e_var 1) e_int) (e_var 4)) (a_cons (e_op o_add p_add (e_var 2) e_int) a_nil)))) (e_callT c_int p_int t.b_int (a_cons (e_cmp o_gt p_gt (e_callF h__law_pick rfl (a_cons (e_var 0) (a_cons (e_op o_add p_add (e_op o_add p_add (e_var 1) e_int) (e_var 4)) (a_cons e_int a_nil)))) e_int) a_nil))) a_nil)))))
    (b_one (s_ret (e_callT c_tuple p_tuple t.b_tuple (a_cons (e_var 3) a_nil)))))))

theorem sc__law_wishes : FnScope [] [] (defScope s__law_wishes) := ⟨rfl, rfl, rfl, by decide +kernel, rfl, by decide +kernel, by decide +kernel⟩
theorem bi__law_wishes : BindsAll "_law_wishes" s__law_wishes [] := fun _ _ _ _ _ _ us hl => match us, hl with | [], _ => rfl
theorem ok__law_wishes {P : Program} {w : World} {g : Gd} {mg : Str → Option Value} {base : Heap} (t : Ft g mg) {k : Nat} : Okf P w g mg base (k + 1) "_law_wishes" [] 0 (D__law_wishes) :=
  mk_fn t.d__law_wishes t.f__law_wishes bi__law_wishes sc__law_wishes rfl rfl fun f cdv A outer s H E =>
    (b_one (s_ret (e_lst (a_cons (e_tup (a_cons e_int (a_cons e_int (a_cons e_int a_nil)))) (a_cons (e_tup (a_cons e_int (a_cons e_int (a_cons e_int a_nil)))) (a_cons (e_tup (a_cons e_int (a_cons e_int (a_cons e_int a_nil)))) (a_cons (e_tup (a_cons e_int (a_cons e_int (a_cons e_int a_nil)))) (a_cons (e_tup (a_cons e_int (a_cons e_int (a_cons e_int a_nil)))) (a_cons (e_tup (a_cons e_int (a_cons e_int (a_cons e_int a_nil)))) a_nil)))))))))

theorem sc_is_whole : FnScope ["thing", "low", "high"] ["thing", "low", "high"] (defScope s_is_whole) := ⟨rfl, rfl, rfl, by decide +kernel, rfl, by decide +kernel, by decide +kernel⟩
theorem bi_is_whole : BindsAll "is_whole" s_is_whole ["thing", "low", "high"] := fun _ _ _ _ _ _ us hl => match us, hl with | [_, _, _], _ => rfl
theorem ok_is_whole {P : Program} {w : World} {g : Gd} {mg : Str → Option Value} {base : Heap} (t : Ft g mg) {k : Nat} : Okf P w g mg base (k + 1) "is_whole" ["thing", "low", "high"] 3 (D_is_whole) :=
  mk_fn t.d_is_whole t.f_is_whole bi_is_whole sc_is_whole rfl rfl fun f cdv A outer s H E =>
    (b_one (s_ret (e_and (e_callB c_isi p_isi t.b_isinstance (a_cons (e_var 0) (a_cons (e_bltn (T := "int") (u := .type "int") t.b_int (by decide +kernel) rfl) a_nil))) (e_and (e_not (e_callB c_isi p_isi t.b_isinstance (a_cons (e_var 0) (a_cons (e_bltn (T := "bool") (u := .type "bool") t.b_bool (by decide +kernel) rfl) a_nil)))) (e_one (e_chain o_le o_le p_le p_le (e_var 1) (e_var 0) (e_var 2)))))))

theorem sc_is_book : FnScope ["thing", "one"] ["thing"] (defScope s_is_book) := ⟨rfl, rfl, rfl, by decide +kernel, rfl, by decide +kernel, by decide +kernel⟩
theorem bi_is_book : BindsAll "is_book" s_is_book ["thing"] := fun _ _ _ _ _ _ us hl => match us, hl with | [_], _ => rfl
theorem ok_is_book {P : Program} {w : World} {g : Gd} {mg : Str → Option Value} {base : Heap} (t : Ft g mg) {k : Nat} {F_is_whole : Fn} (h_is_whole : Okf P w g mg base k "is_whole" ["thing", "low", "high"] 3 F_is_whole) : Okf P w g mg base (k + 1) "is_book" ["thing"] 1 (D_is_book F_is_whole) :=
  mk_fn t.d_is_book t.f_is_book bi_is_book sc_is_book rfl rfl fun f cdv A outer s H E =>
    (b_one (s_ret (e_and (e_callB c_isi p_isi t.b_isinstance (a_cons (e_var 0) (a_cons (e_bltn (T := "tuple") (u := .type "tuple") t.b_tuple (by decide +kernel) rfl) a_nil))) (e_and (e_cmp o_eq p_eq (e_callB c_len p_len t.b_len (a_cons (e_var 0) a_nil)) e_int) (e_one (e_callB c_all p_all t.b_all (a_cons (e_comp [("one", 1)] (i_seq (b := false) (e_var 0)) (blkOk_by (by rfl)) (fun _ _ _ _ _ => (g_name 1)) (fun _ _ _ _ _ => ts_nil) (fun _ _ _ _ _ => (e_callF h_is_whole rfl (a_cons (e_var 1) (a_cons e_int (a_cons (e_con t.c_GREATEST) a_nil)))))) a_nil)))))))

theorem sc_look_book : FnScope ["book"] ["book"] (defScope s_look_book) := ⟨rfl, rfl, rfl, by decide +kernel, rfl, by decide +kernel, by decide +kernel⟩
theorem bi_look_book : BindsAll "look_book" s_look_book ["book"] := fun _ _ _ _ _ _ us hl => match us, hl with | [_], _ => rfl
theorem ok_look_book {P : Program} {w : World} {g : Gd} {mg : Str → Option Value} {base : Heap} (t : Ft g mg) {k : Nat} {F_is_book : Fn} (h_is_book : Okf P w g mg base k "is_book" ["thing"] 1 F_is_book) : Okf P w g mg base (k + 1) "look_book" ["book"] 1 (D_look_book F_is_book) :=
  mk_fn t.d_look_book t.f_look_book bi_look_book sc_look_book rfl rfl fun f cdv A outer s H E =>
    (b_one (s_if (t_not (t_val (e_callF h_is_book rfl (a_cons (e_var 0) a_nil)))) (b_one s_never) b_nil))

theorem sc_is_wish : FnScope ["thing", "one"] ["thing"] (defScope s_is_wish) := ⟨rfl, rfl, rfl, by decide +kernel, rfl, by decide +kernel, by decide +kernel⟩
theorem bi_is_wish : BindsAll "is_wish" s_is_wish ["thing"] := fun _ _ _ _ _ _ us hl => match us, hl with | [_], _ => rfl
theorem ok_is_wish {P : Program} {w : World} {g : Gd} {mg : Str → Option Value} {base : Heap} (t : Ft g mg) {k : Nat} {F_is_whole : Fn} (h_is_whole : Okf P w g mg base k "is_whole" ["thing", "low", "high"] 3 F_is_whole) : Okf P w g mg base (k + 1) "is_wish" ["thing"] 1 (D_is_wish F_is_whole) :=
  mk_fn t.d_is_wish t.f_is_wish bi_is_wish sc_is_wish rfl rfl fun f cdv A outer s H E =>
    (b_cons (s_if (t_bool (w_or (t_not (t_val (e_callB c_isi p_isi t.b_isinstance (a_cons (e_var 0) (a_cons (e_bltn (T := "tuple") (u := .type "tuple") t.b_tuple (by decide +kernel) rfl) a_nil))))) (w_or (t_cmp o_ne p_ne (e_callB c_len p_len t.b_len (a_cons (e_var 0) a_nil)) e_int) (w_or1 (t_not (t_val (e_callB c_all p_all t.b_all (a_cons (e_comp [("one", 1)] (i_seq (b := false) (e_var 0)) (blkOk_by (by rfl)) (fun _ _ _ _ _ => (g_name 1)) (fun _ _ _ _ _ => ts_nil) (fun _ _ _ _ _ => (e_callF h_is_whole rfl (a_cons (e_var 1) (a_cons e_int (a_cons e_int a_nil)))))) a_nil)))))))) (b_one (s_ret e_bl)) b_nil)
    (b_one (s_ret (e_cmp o_in p_in (e_var 0) (e_con t.c_WISHES)))))

theorem sc_renamed : FnScope ["book", "order", "made", "wish", "many", "thing"] ["book", "order"] (defScope s_renamed) := ⟨rfl, rfl, rfl, by decide +kernel, rfl, by decide +kernel, by decide +kernel⟩
theorem bi_renamed : BindsAll "renamed" s_renamed ["book", "order"] := fun _ _ _ _ _ _ us hl => match us, hl with | [_, _], _ => rfl
theorem ok_renamed {P : Program} {w : World} {g : Gd} {mg : Str → Option Value} {base : Heap} (t : Ft g mg) {k : Nat} {F_look_book : Fn} {F_is_wish : Fn} (h_look_book : Okf P w g mg base k "look_book" ["book"] 1 F_look_book) (h_is_wish : Okf P w g mg base k "is_wish" ["thing"] 1 F_is_wish) : Okf P w g mg base (k + 1) "renamed" ["book", "order"] 2 (D_renamed F_look_book F_is_wish) :=
  mk_fn t.d_renamed t.f_renamed bi_renamed sc_renamed rfl rfl fun f cdv A outer s H E =>
    (b_cons (s_expr (e_callF h_look_book rfl (a_cons (e_var 0) a_nil)))
    (b_cons (s_if (t_not (t_val (e_callF h_is_wish rfl (a_cons (e_var 1) a_nil)))) (b_one s_never) b_nil)
    (b_cons (s_set 2 e_dnew)
    (b_cons (s_forC [1, 2] (i_zip t.b_zip (a_cons (e_con t.c_WISHES) (a_cons (e_var 0) a_nil))) (g_tup (sn_cons 3 (sn_cons 4 .nil))) (b_one (s_putX (e_var 2) (e_callT c_tuple p_tuple t.b_tuple (a_cons (e_comp [("thing", 5)] (i_seq (b := false) (e_var 3)) (blkOk_by (by rfl)) (fun _ _ _ _ _ => (g_name 5)) (fun _ _ _ _ _ => ts_nil) (fun _ _ _ _ _ => (e_ixU (e_var 1) (e_var 5)))) a_nil)) (e_var 4))))
    (b_one (s_ret (e_callT c_tuple p_tuple t.b_tuple (a_cons (e_comp [("wish", 3)] (i_seq (b := false) (e_con t.c_WISHES)) (blkOk_by (by rfl)) (fun _ _ _ _ _ => (g_name 3)) (fun _ _ _ _ _ => ts_nil) (fun _ _ _ _ _ => (e_dgX (e_var 2) (e_var 3)))) a_nil))))))))

theorem sc_turned : FnScope ["book", "wish"] ["book"] (defScope s_turned) := ⟨rfl, rfl, rfl, by decide +kernel, rfl, by decide +kernel, by decide +kernel⟩
theorem bi_turned : BindsAll "turned" s_turned ["book"] := fun _ _ _ _ _ _ us hl => match us, hl with | [_], _ => rfl
theorem ok_turned {P : Program} {w : World} {g : Gd} {mg : Str → Option Value} {base : Heap} (t : Ft g mg) {k : Nat} {F_look_book : Fn} (h_look_book : Okf P w g mg base k "look_book" ["book"] 1 F_look_book) : Okf P w g mg base (k + 1) "turned" ["book"] 1 (D_turned F_look_book) :=
  mk_fn t.d_turned t.f_turned bi_turned sc_turned rfl rfl fun f cdv A outer s H E =>
    (b_cons (s_expr (e_callF h_look_book rfl (a_cons (e_var 0) a_nil)))
    (b_one (s_ret (e_callT c_tuple p_tuple t.b_tuple (a_cons (e_comp [("wish", 1)] (i_seq (b := false) (e_con t.c_WISHES)) (blkOk_by (by rfl)) (fun _ _ _ _ _ => (g_name 1)) (fun _ _ _ _ _ => ts_nil) (fun _ _ _ _ _ => (e_ixU (e_var 0) (e_index (e_con t.c_WISHES) (a_cons (e_rev (e_var 1)) a_nil))))) a_nil)))))

theorem sc_plus : FnScope ["one", "other", "made", "a", "b"] ["one", "other"] (defScope s_plus) := ⟨rfl, rfl, rfl, by decide +kernel, rfl, by decide +kernel, by decide +kernel⟩
theorem bi_plus : BindsAll "plus" s_plus ["one", "other"] := fun _ _ _ _ _ _ us hl => match us, hl with | [_, _], _ => rfl
theorem ok_plus {P : Program} {w : World} {g : Gd} {mg : Str → Option Value} {base : Heap} (t : Ft g mg) {k : Nat} {F_look_book : Fn} (h_look_book : Okf P w g mg base k "look_book" ["book"] 1 F_look_book) : Okf P w g mg base (k + 1) "plus" ["one", "other"] 2 (D_plus F_look_book) :=
  mk_fn t.d_plus t.f_plus bi_plus sc_plus rfl rfl fun f cdv A outer s H E =>
    (b_cons (s_expr (e_callF h_look_book rfl (a_cons (e_var 0) a_nil)))
    (b_cons (s_expr (e_callF h_look_book rfl (a_cons (e_var 1) a_nil)))
    (b_cons (s_set 2 (e_callT c_tuple p_tuple t.b_tuple (a_cons (e_comp [("a", 3), ("b", 4)] (i_zip t.b_zip (a_cons (e_var 0) (a_cons (e_var 1) a_nil))) (blkOk_by (by rfl)) (fun _ _ _ _ _ => (g_tup (sn_cons 3 (sn_cons 4 .nil)))) (fun _ _ _ _ _ => ts_nil) (fun _ _ _ _ _ => (e_op o_add p_add (e_var 3) (e_var 4)))) a_nil)))
    (b_cons (s_expr (e_callF h_look_book rfl (a_cons (e_var 2) a_nil)))
    (b_one (s_ret (e_var 2)))))))

theorem sc_size : FnScope ["book"] ["book"] (defScope s_size) := ⟨rfl, rfl, rfl, by decide +kernel, rfl, by decide +kernel, by decide +kernel⟩
theorem bi_size : BindsAll "size" s_size ["book"] := fun _ _ _ _ _ _ us hl => match us, hl with | [_], _ => rfl
theorem ok_size {P : Program} {w : World} {g : Gd} {mg : Str → Option Value} {base : Heap} (t : Ft g mg) {k : Nat} {F_look_book : Fn} (h_look_book : Okf P w g mg base k "look_book" ["book"] 1 F_look_book) : Okf P w g mg base (k + 1) "size" ["book"] 1 (D_size F_look_book) :=
  mk_fn t.d_size t.f_size bi_size sc_size rfl rfl fun f cdv A outer s H E =>
    (b_cons (s_expr (e_callF h_look_book rfl (a_cons (e_var 0) a_nil)))
    (b_one (s_ret (e_callB c_sumA p_sumA t.b_sum (a_cons (e_var 0) a_nil)))))

theorem sc_look_thing : FnScope ["thing"] ["thing"] (defScope s_look_thing) := ⟨rfl, rfl, rfl, by decide +kernel, rfl, by decide +kernel, by decide +kernel⟩
theorem bi_look_thing : BindsAll "look_thing" s_look_thing ["thing"] := fun _ _ _ _ _ _ us hl => match us, hl with | [_], _ => rfl
theorem ok_look_thing {P : Program} {w : World} {g : Gd} {mg : Str → Option Value} {base : Heap} (t : Ft g mg) {k : Nat} {F_is_whole : Fn} (h_is_whole : Okf P w g mg base k "is_whole" ["thing", "low", "high"] 3 F_is_whole) : Okf P w g mg base (k + 1) "look_thing" ["thing"] 1 (D_look_thing F_is_whole) :=
  mk_fn t.d_look_thing t.f_look_thing bi_look_thing sc_look_thing rfl rfl fun f cdv A outer s H E =>
    (b_one (s_if (t_not (t_val (e_callF h_is_whole rfl (a_cons (e_var 0) (a_cons e_int (a_cons e_int a_nil)))))) (b_one s_never) b_nil))

theorem sc_ahead_in : FnScope ["book", "one", "other", "wish", "many"] ["book", "one", "other"] (defScope s_ahead_in) := ⟨rfl, rfl, rfl, by decide +kernel, rfl, by decide +kernel, by decide +kernel⟩
theorem bi_ahead_in : BindsAll "ahead_in" s_ahead_in ["book", "one", "other"] := fun _ _ _ _ _ _ us hl => match us, hl with | [_, _, _], _ => rfl
theorem ok_ahead_in {P : Program} {w : World} {g : Gd} {mg : Str → Option Value} {base : Heap} (t : Ft g mg) {k : Nat} : Okf P w g mg base (k + 1) "ahead_in" ["book", "one", "other"] 3 (D_ahead_in) :=
  mk_fn t.d_ahead_in t.f_ahead_in bi_ahead_in sc_ahead_in rfl rfl fun f cdv A outer s H E =>
    (b_one (s_ret (e_callB c_sumA p_sumA t.b_sum (a_cons (e_comp [("wish", 3), ("many", 4)] (i_zip t.b_zip (a_cons (e_con t.c_WISHES) (a_cons (e_var 0) a_nil))) (blkOk_by (by rfl)) (fun _ _ _ _ _ => (g_tup (sn_cons 3 (sn_cons 4 .nil)))) (fun _ _ _ _ _ => (ts_one (t_cmp o_lt p_lt (e_index (e_var 3) (a_cons (e_var 1) a_nil)) (e_index (e_var 3) (a_cons (e_var 2) a_nil))))) (fun _ _ _ _ _ => (e_var 4))) a_nil))))

theorem sc_ahead : FnScope ["book", "one", "other"] ["book", "one", "other"] (defScope s_ahead) := ⟨rfl, rfl, rfl, by decide +kernel, rfl, by decide +kernel, by decide +kernel⟩
theorem bi_ahead : BindsAll "ahead" s_ahead ["book", "one", "other"] := fun _ _ _ _ _ _ us hl => match us, hl with | [_, _, _], _ => rfl
theorem ok_ahead {P : Program} {w : World} {g : Gd} {mg : Str → Option Value} {base : Heap} (t : Ft g mg) {k : Nat} {F_look_book : Fn} {F_look_thing : Fn} {F_ahead_in : Fn} (h_look_book : Okf P w g mg base k "look_book" ["book"] 1 F_look_book) (h_look_thing : Okf P w g mg base k "look_thing" ["thing"] 1 F_look_thing) (h_ahead_in : Okf P w g mg base k "ahead_in" ["book", "one", "other"] 3 F_ahead_in) : Okf P w g mg base (k + 1) "ahead" ["book", "one", "other"] 3 (D_ahead F_look_book F_look_thing F_ahead_in) :=
  mk_fn t.d_ahead t.f_ahead bi_ahead sc_ahead rfl rfl fun f cdv A outer s H E =>
    (b_cons (s_expr (e_callF h_look_book rfl (a_cons (e_var 0) a_nil)))
    (b_cons (s_expr (e_callF h_look_thing rfl (a_cons (e_var 1) a_nil)))
    (b_cons (s_expr (e_callF h_look_thing rfl (a_cons (e_var 2) a_nil)))
    (b_one (s_ret (e_callF h_ahead_in rfl (a_cons (e_var 0) (a_cons (e_var 1) (a_cons (e_var 2) a_nil)))))))))

theorem sc_lifted_wish : FnScope ["wish", "thing", "at", "made"] ["wish", "thing"] (defScope s_lifted_wish) := ⟨rfl, rfl, rfl, by decide +kernel, rfl, by decide +kernel, by decide +kernel⟩
theorem bi_lifted_wish : BindsAll "lifted_wish" s_lifted_wish ["wish", "thing"] := fun _ _ _ _ _ _ us hl => match us, hl with | [_, _], _ => rfl
theorem ok_lifted_wish {P : Program} {w : World} {g : Gd} {mg : Str → Option Value} {base : Heap} (t : Ft g mg) {k : Nat} : Okf P w g mg base (k + 1) "lifted_wish" ["wish", "thing"] 2 (D_lifted_wish) :=
  mk_fn t.d_lifted_wish t.f_lifted_wish bi_lifted_wish sc_lifted_wish rfl rfl fun f cdv A outer s H E =>
    (b_cons (s_set 2 (e_index (e_var 0) (a_cons (e_var 1) a_nil)))
    (b_cons (s_if (t_cmp o_eq p_eq (e_var 2) e_int) (b_one (s_ret (e_var 0))) b_nil)
    (b_cons (s_set 3 (e_callT c_list p_list t.b_list (a_cons (e_var 0) a_nil)))
    (b_cons (s_put2 (e_var 3) (e_op o_sub p_sub (e_var 2) e_int) (e_var 3) (e_var 2) (a_cons (e_ixU (e_var 3) (e_var 2)) (a_cons (e_ixU (e_var 3) (e_op o_sub p_sub (e_var 2) e_int)) a_nil)))
    (b_one (s_ret (e_callT c_tuple p_tuple t.b_tuple (a_cons (e_var 3) a_nil))))))))

theorem sc_lifted : FnScope ["book", "number", "thing", "made", "goal"] ["book", "number", "thing"] (defScope s_lifted) := ⟨rfl, rfl, rfl, by decide +kernel, rfl, by decide +kernel, by decide +kernel⟩
theorem bi_lifted : BindsAll "lifted" s_lifted ["book", "number", "thing"] := fun _ _ _ _ _ _ us hl => match us, hl with | [_, _, _], _ => rfl
theorem ok_lifted {P : Program} {w : World} {g : Gd} {mg : Str → Option Value} {base : Heap} (t : Ft g mg) {k : Nat} {F_look_book : Fn} {F_look_thing : Fn} {F_is_whole : Fn} {F_lifted_wish : Fn} (h_look_book : Okf P w g mg base k "look_book" ["book"] 1 F_look_book) (h_look_thing : Okf P w g mg base k "look_thing" ["thing"] 1 F_look_thing) (h_is_whole : Okf P w g mg base k "is_whole" ["thing", "low", "high"] 3 F_is_whole) (h_lifted_wish : Okf P w g mg base k "lifted_wish" ["wish", "thing"] 2 F_lifted_wish) : Okf P w g mg base (k + 1) "lifted" ["book", "number", "thing"] 3 (D_lifted F_look_book F_look_thing F_is_whole F_lifted_wish) :=
  mk_fn t.d_lifted t.f_lifted bi_lifted sc_lifted rfl rfl fun f cdv A outer s H E =>
    (b_cons (s_expr (e_callF h_look_book rfl (a_cons (e_var 0) a_nil)))
    (b_cons (s_expr (e_callF h_look_thing rfl (a_cons (e_var 2) a_nil)))
    (b_cons (s_if (t_bool (w_or (t_not (t_val (e_callF h_is_whole rfl (a_cons (e_var 1) (a_cons e_int (a_cons e_int a_nil)))))) (w_or1 (t_cmp o_eq p_eq (e_ixU (e_var 0) (e_var 1)) e_int)))) (b_one s_never) b_nil)
    (b_cons (s_set 3 (e_callT c_list p_list t.b_list (a_cons (e_var 0) a_nil)))
    (b_cons (s_put (e_var 3) (e_var 1) (e_op o_sub p_sub (e_ixU (e_var 3) (e_var 1)) e_int))
    (b_cons (s_set 4 (e_index (e_con t.c_WISHES) (a_cons (e_callF h_lifted_wish rfl (a_cons (e_ixU (e_con t.c_WISHES) (e_var 1)) (a_cons (e_var 2) a_nil))) a_nil)))
    (b_cons (s_put (e_var 3) (e_var 4) (e_op o_add p_add (e_ixU (e_var 3) (e_var 4)) e_int))
    (b_cons (s_expr (e_callF h_look_book rfl (a_cons (e_callT c_tuple p_tuple t.b_tuple (a_cons (e_var 3) a_nil)) a_nil)))
    (b_one (s_ret (e_callT c_tuple p_tuple t.b_tuple (a_cons (e_var 3) a_nil))))))))))))

theorem sc_law : FnScope ["script", "book", "many", "other", "first", "last", "thing", "both", "one", "two", "here", "number", "made", "won", "rest"] ["script"] (defScope s_law) := ⟨rfl, rfl, rfl, by decide +kernel, rfl, by decide +kernel, by decide +kernel⟩
theorem bi_law : BindsAll "law" s_law ["script"] := fun _ _ _ _ _ _ us hl => match us, hl with | [_], _ => rfl
theorem ok_law {P : Program} {w : World} {g : Gd} {mg : Str → Option Value} {base : Heap} (t : Ft g mg) {k : Nat} {F__law_book : Fn} {F__law_wishes : Fn} {F__law_pick : Fn} {F_renamed : Fn} {F_turned : Fn} {F_plus : Fn} {F_size : Fn} {F_ahead : Fn} {F_lifted : Fn} (h__law_book : Okf P w g mg base k "_law_book" ["script", "at"] 2 F__law_book) (h__law_wishes : Okf P w g mg base k "_law_wishes" [] 0 F__law_wishes) (h__law_pick : Okf P w g mg base k "_law_pick" ["script", "k", "many"] 3 F__law_pick) (h_renamed : Okf P w g mg base k "renamed" ["book", "order"] 2 F_renamed) (h_turned : Okf P w g mg base k "turned" ["book"] 1 F_turned) (h_plus : Okf P w g mg base k "plus" ["one", "other"] 2 F_plus) (h_size : Okf P w g mg base k "size" ["book"] 1 F_size) (h_ahead : Okf P w g mg base k "ahead" ["book", "one", "other"] 3 F_ahead) (h_lifted : Okf P w g mg base k "lifted" ["book", "number", "thing"] 3 F_lifted) : Okf P w g mg base (k + 1) "law" ["script"] 1 (D_law F__law_book F__law_wishes F__law_pick F_renamed F_turned F_plus F_size F_ahead F_lifted) :=
  mk_fn t.d_law t.f_law bi_law sc_law rfl rfl fun f cdv A outer s H E =>
    (b_cons (s_set 1 (e_callT c_tuple p_tuple t.b_tuple (a_cons (e_comp [("many", 2)] (i_seq (b := false) (e_callF h__law_book rfl (a_cons (e_var 0) (a_cons e_int a_nil)))) (blkOk_by (by rfl)) (fun _ _ _ _ _ => (g_name 2)) (fun _ _ _ _ _ => ts_nil) (fun _ _ _ _ _ => (e_callB c_min p_min t.b_min (a_cons e_int (a_cons (e_var 2) a_nil))))) a_nil)))
    (b_drop [0, 1] (b_cons (s_set 3 (e_callT c_tuple p_tuple t.b_tuple (a_cons (e_comp [("many", 2)] (i_seq (b := false) (e_callF h__law_book rfl (a_cons (e_var 0) (a_cons e_int a_nil)))) (blkOk_by (by rfl)) (fun _ _ _ _ _ => (g_name 2)) (fun _ _ _ _ _ => ts_nil) (fun _ _ _ _ _ => (e_callB c_min p_min t.b_min (a_cons e_int (a_cons (e_var 2) a_nil))))) a_nil)))
    (b_drop [0, 1, 3] (b_cons (s_asgT (e_tup (a_cons (e_ixU (e_callF0 h__law_wishes rfl) (e_callF h__law_pick rfl (a_cons (e_var 0) (a_cons e_int (a_cons e_int a_nil))))) (a_cons (e_ixU (e_callF0 h__law_wishes rfl) (e_callF h__law_pick rfl (a_cons (e_var 0) (a_cons e_int (a_cons e_int a_nil))))) a_nil))) (g_tup (sn_cons 4 (sn_cons 5 .nil))))
    (b_drop [0, 1, 3, 4, 5] (b_cons (s_if (t_cmp o_ne p_ne (e_callF h_renamed rfl (a_cons (e_callF h_renamed rfl (a_cons (e_var 1) (a_cons (e_var 4) a_nil))) (a_cons (e_var 5) a_nil))) (e_callF h_renamed rfl (a_cons (e_var 1) (a_cons (e_callT c_tuple p_tuple t.b_tuple (a_cons (e_comp [("thing", 6)] (i_range1 (b := false) t.b_range (a_cons e_int a_nil)) (blkOk_by (by rfl)) (fun _ _ _ _ _ => (g_name 6)) (fun _ _ _ _ _ => ts_nil) (fun _ _ _ _ _ => (e_ixU (e_var 5) (e_ixU (e_var 4) (e_var 6))))) a_nil)) a_nil)))) (b_one (s_ret e_bl)) b_nil)
    (b_drop [0, 1, 3, 4] (b_cons (s_if (t_bool (w_or (t_cmp o_ne p_ne (e_callF h_turned rfl (a_cons (e_callF h_turned rfl (a_cons (e_var 1) a_nil)) a_nil)) (e_var 1)) (w_or1 (t_cmp o_ne p_ne (e_callF h_turned rfl (a_cons (e_callF h_renamed rfl (a_cons (e_var 1) (a_cons (e_var 4) a_nil))) a_nil)) (e_callF h_renamed rfl (a_cons (e_callF h_turned rfl (a_cons (e_var 1) a_nil)) (a_cons (e_var 4) a_nil))))))) (b_one (s_ret e_bl)) b_nil)
    (b_drop [0, 1, 3, 4] (b_cons (s_set 7 (e_callF h_plus rfl (a_cons (e_var 1) (a_cons (e_var 3) a_nil))))
    (b_drop [0, 1, 3, 4, 7] (b_cons (s_if (t_bool (w_or (t_cmp o_ne p_ne (e_var 7) (e_callF h_plus rfl (a_cons (e_var 3) (a_cons (e_var 1) a_nil)))) (w_or1 (t_cmp o_ne p_ne (e_callF h_size rfl (a_cons (e_var 7) a_nil)) (e_op o_add p_add (e_callF h_size rfl (a_cons (e_var 1) a_nil)) (e_callF h_size rfl (a_cons (e_var 3) a_nil))))))) (b_one (s_ret e_bl)) b_nil)
    (b_drop [0, 1, 3, 4, 7] (b_cons (s_if (t_cmp o_ne p_ne (e_callF h_turned rfl (a_cons (e_var 7) a_nil)) (e_callF h_plus rfl (a_cons (e_callF h_turned rfl (a_cons (e_var 1) a_nil)) (a_cons (e_callF h_turned rfl (a_cons (e_var 3) a_nil)) a_nil)))) (b_one (s_ret e_bl)) b_nil)
    (b_drop [0, 1, 3, 4, 7] (b_cons (s_if (t_cmp o_ne p_ne (e_callF h_renamed rfl (a_cons (e_var 7) (a_cons (e_var 4) a_nil))) (e_callF h_plus rfl (a_cons (e_callF h_renamed rfl (a_cons (e_var 1) (a_cons (e_var 4) a_nil))) (a_cons (e_callF h_renamed rfl (a_cons (e_var 3) (a_cons (e_var 4) a_nil))) a_nil)))) (b_one (s_ret e_bl)) b_nil)
    (b_drop [0, 1, 3, 4, 7] (b_cons (s_forC [0, 1, 3, 4, 7] (i_range1 (b := false) t.b_range (a_cons e_int a_nil)) (g_name 8) (b_one (s_forC [0, 1, 3, 4, 7, 8] (i_range1 (b := false) t.b_range (a_cons e_int a_nil)) (g_name 9) (b_cons (s_set 10 (e_callF h_ahead rfl (a_cons (e_var 1) (a_cons (e_var 8) (a_cons (e_var 9) a_nil)))))
    (b_drop [0, 1, 3, 4, 7, 8, 9, 10] (b_cons (s_if (t_bool (w_or (t_bool (w_and (t_cmp o_ne p_ne (e_var 8) (e_var 9)) (w_and1 (t_cmp o_ne p_ne (e_op o_add p_add (e_var 10) (e_callF h_ahead rfl (a_cons (e_var 1) (a_cons (e_var 9) (a_cons (e_var 8) a_nil))))) (e_callF h_size rfl (a_cons (e_var 1) a_nil)))))) (w_or1 (t_bool (w_and (t_cmp o_eq p_eq (e_var 8) (e_var 9)) (w_and1 (t_cmp o_ne p_ne (e_var 10) e_int))))))) (b_one (s_ret e_bl)) b_nil)
    (b_drop [0, 1, 3, 4, 7, 8, 9, 10] (b_cons (s_if (t_bool (w_or (t_cmp o_ne p_ne (e_callF h_ahead rfl (a_cons (e_var 7) (a_cons (e_var 8) (a_cons (e_var 9) a_nil)))) (e_op o_add p_add (e_var 10) (e_callF h_ahead rfl (a_cons (e_var 3) (a_cons (e_var 8) (a_cons (e_var 9) a_nil)))))) (w_or1 (t_cmp o_ne p_ne (e_callF h_ahead rfl (a_cons (e_callF h_turned rfl (a_cons (e_var 1) a_nil)) (a_cons (e_var 9) (a_cons (e_var 8) a_nil)))) (e_var 10))))) (b_one (s_ret e_bl)) b_nil)
    (b_drop [0, 1, 3, 4, 7, 8, 9, 10] (b_one (s_if (t_cmp o_ne p_ne (e_callF h_ahead rfl (a_cons (e_callF h_renamed rfl (a_cons (e_var 1) (a_cons (e_var 4) a_nil))) (a_cons (e_ixU (e_var 4) (e_var 8)) (a_cons (e_ixU (e_var 4) (e_var 9)) a_nil)))) (e_var 10)) (b_one (s_ret e_bl)) b_nil)))))))))))
    (b_drop [0, 1] (b_cons (s_asgT (e_tup (a_cons (e_callF h__law_pick rfl (a_cons (e_var 0) (a_cons e_int (a_cons e_int a_nil)))) (a_cons (e_callF h__law_pick rfl (a_cons (e_var 0) (a_cons e_int (a_cons e_int a_nil)))) a_nil))) (g_tup (sn_cons 11 (sn_cons 6 .nil))))
    (b_drop [1, 6, 11] (b_cons (s_if (t_cmp o_eq p_eq (e_ixU (e_var 1) (e_var 11)) e_int) (b_one (s_ret e_bl)) b_nil)
    (b_drop [1, 6, 11] (b_cons (s_set 12 (e_callF h_lifted rfl (a_cons (e_var 1) (a_cons (e_var 11) (a_cons (e_var 6) a_nil)))))
    (b_drop [1, 6, 11, 12] (b_cons (s_setLc 13 [("one", 8)] (i_range1 (b := false) t.b_range (a_cons e_int a_nil)) (blkOk_by (by rfl)) (fun _ _ _ _ _ => (g_name 8)) (fun _ _ _ _ _ => (ts_one (t_cmp o_ne p_ne (e_var 8) (e_var 6)))) (fun _ _ _ _ _ => (e_op o_sub p_sub (e_callF h_ahead rfl (a_cons (e_var 12) (a_cons (e_var 6) (a_cons (e_var 8) a_nil)))) (e_callF h_ahead rfl (a_cons (e_var 1) (a_cons (e_var 6) (a_cons (e_var 8) a_nil)))))))
    (b_drop [1, 6, 11, 12, 13] (b_cons (s_if (t_bool (w_or (t_cmp o_ne p_ne (e_callB c_sortA p_sortA t.b_sorted (a_cons (e_var 13) a_nil)) (e_lst (a_cons e_int (a_cons (e_callT c_int p_int t.b_int (a_cons (e_cmp o_ne p_ne (e_ixU (e_ixU (e_callF0 h__law_wishes rfl) (e_var 11)) e_int) (e_var 6)) a_nil)) a_nil)))) (w_or1 (t_cmp o_ne p_ne (e_callF h_size rfl (a_cons (e_var 12) a_nil)) (e_callF h_size rfl (a_cons (e_var 1) a_nil)))))) (b_one (s_ret e_bl)) b_nil)
    (b_drop [1, 6, 12] (b_cons (s_setLc 14 [("one", 8)] (i_range1 (b := false) t.b_range (a_cons e_int a_nil)) (blkOk_by (by rfl)) (fun _ _ _ _ _ => (g_name 8)) (fun _ _ _ _ _ => (ts_one (t_cmp o_ne p_ne (e_var 8) (e_var 6)))) (fun _ _ _ _ _ => (e_var 8)))
    (b_drop [1, 12, 14] (b_one (s_ret (e_cmp o_eq p_eq (e_callF h_ahead rfl (a_cons (e_var 12) (a_cons (e_ixU (e_var 14) e_int) (a_cons (e_ixU (e_var 14) e_int) a_nil)))) (e_callF h_ahead rfl (a_cons (e_var 1) (a_cons (e_ixU (e_var 14) e_int) (a_cons (e_ixU (e_var 14) e_int) a_nil)))))))))))))))))))))))))))))))))))))))

/-! ### the head -/
def dd__law_cell : He.DefD := ⟨("_law_cell", none), "_law_cell", "_law_cell", defArgs s__law_cell, defBody s__law_cell, defScope s__law_cell, [], []⟩
def dd__law_pick : He.DefD := ⟨("_law_pick", none), "_law_pick", "_law_pick", defArgs s__law_pick, defBody s__law_pick, defScope s__law_pick, [], []⟩
def dd__law_book : He.DefD := ⟨("_law_book", none), "_law_book", "_law_book", defArgs s__law_book, defBody s__law_book, defScope s__law_book, [], []⟩
def dd__law_wishes : He.DefD := ⟨("_law_wishes", none), "_law_wishes", "_law_wishes", defArgs s__law_wishes, defBody s__law_wishes, defScope s__law_wishes, [], []⟩
def dd_is_whole : He.DefD := ⟨("is_whole", none), "is_whole", "is_whole", defArgs s_is_whole, defBody s_is_whole, defScope s_is_whole, [], []⟩
def dd_is_book : He.DefD := ⟨("is_book", none), "is_book", "is_book", defArgs s_is_book, defBody s_is_book, defScope s_is_book, [], []⟩
def dd_look_book : He.DefD := ⟨("look_book", none), "look_book", "look_book", defArgs s_look_book, defBody s_look_book, defScope s_look_book, [], []⟩
def dd_is_wish : He.DefD := ⟨("is_wish", none), "is_wish", "is_wish", defArgs s_is_wish, defBody s_is_wish, defScope s_is_wish, [], []⟩
def dd_renamed : He.DefD := ⟨("renamed", none), "renamed", "renamed", defArgs s_renamed, defBody s_renamed, defScope s_renamed, [], []⟩
def dd_turned : He.DefD := ⟨("turned", none), "turned", "turned", defArgs s_turned, defBody s_turned, defScope s_turned, [], []⟩
def dd_plus : He.DefD := ⟨("plus", none), "plus", "plus", defArgs s_plus, defBody s_plus, defScope s_plus, [], []⟩
def dd_size : He.DefD := ⟨("size", none), "size", "size", defArgs s_size, defBody s_size, defScope s_size, [], []⟩
def dd_look_thing : He.DefD := ⟨("look_thing", none), "look_thing", "look_thing", defArgs s_look_thing, defBody s_look_thing, defScope s_look_thing, [], []⟩
def dd_ahead_in : He.DefD := ⟨("ahead_in", none), "ahead_in", "ahead_in", defArgs s_ahead_in, defBody s_ahead_in, defScope s_ahead_in, [], []⟩
def dd_ahead : He.DefD := ⟨("ahead", none), "ahead", "ahead", defArgs s_ahead, defBody s_ahead, defScope s_ahead, [], []⟩
def dd_lifted_wish : He.DefD := ⟨("lifted_wish", none), "lifted_wish", "lifted_wish", defArgs s_lifted_wish, defBody s_lifted_wish, defScope s_lifted_wish, [], []⟩
def dd_lifted : He.DefD := ⟨("lifted", none), "lifted", "lifted", defArgs s_lifted, defBody s_lifted, defScope s_lifted, [], []⟩
def dd_law : He.DefD := ⟨("law", none), "law", "law", defArgs s_law, defBody s_law, defScope s_law, [], []⟩
def fn : List He.DefD := [dd__law_cell, dd__law_pick, dd__law_book, dd__law_wishes, dd_is_whole, dd_is_book, dd_look_book, dd_is_wish, dd_renamed, dd_turned, dd_plus, dd_size, dd_look_thing, dd_ahead_in, dd_ahead, dd_lifted_wish, dd_lifted, dd_law]
def fa : List He.Fa := [.glo "_law_cell", .glo "_law_pick", .glo "_law_book", .glo "_law_wishes", .glo "is_whole", .glo "is_book", .glo "look_book", .glo "is_wish", .glo "renamed", .glo "turned", .glo "plus", .glo "size", .glo "look_thing", .glo "ahead_in", .glo "ahead", .glo "lifted_wish", .glo "lifted", .glo "law", .free "all", .free "bool", .free "int", .free "isinstance", .free "len", .free "list", .free "min", .free "range", .free "sorted", .free "sum", .free "tuple", .free "zip"]
def ex (K : PySem.W.Frag) : Bool := conB K "GREATEST" c_GREATEST && conB K "WISHES" c_WISHES
theorem ft {g : Gd} {h : Heap} {mg : Str → Option Value} (X : g.K.In h) (G : h.Ns mainGlobals mg) (c : He.SaysD fa fn g.K) (e : ex g.K = true) : Ft g mg := by
  unfold ex at e
  simp only [Bool.and_eq_true] at e
  exact {
    b_all := He.free_ok X G (c.fact 18 (f := .free "all") rfl)
    b_bool := He.free_ok X G (c.fact 19 (f := .free "bool") rfl)
    b_int := He.free_ok X G (c.fact 20 (f := .free "int") rfl)
    b_isinstance := He.free_ok X G (c.fact 21 (f := .free "isinstance") rfl)
    b_len := He.free_ok X G (c.fact 22 (f := .free "len") rfl)
    b_list := He.free_ok X G (c.fact 23 (f := .free "list") rfl)
    b_min := He.free_ok X G (c.fact 24 (f := .free "min") rfl)
    b_range := He.free_ok X G (c.fact 25 (f := .free "range") rfl)
    b_sorted := He.free_ok X G (c.fact 26 (f := .free "sorted") rfl)
    b_sum := He.free_ok X G (c.fact 27 (f := .free "sum") rfl)
    b_tuple := He.free_ok X G (c.fact 28 (f := .free "tuple") rfl)
    b_zip := He.free_ok X G (c.fact 29 (f := .free "zip") rfl)
    f__law_cell := He.glo_ok X G (c.fact 0 (f := .glo "_law_cell") rfl)
    d__law_cell := c.def_ 0 (d := dd__law_cell) rfl
    f__law_pick := He.glo_ok X G (c.fact 1 (f := .glo "_law_pick") rfl)
    d__law_pick := c.def_ 1 (d := dd__law_pick) rfl
    f__law_book := He.glo_ok X G (c.fact 2 (f := .glo "_law_book") rfl)
    d__law_book := c.def_ 2 (d := dd__law_book) rfl
    f__law_wishes := He.glo_ok X G (c.fact 3 (f := .glo "_law_wishes") rfl)
    d__law_wishes := c.def_ 3 (d := dd__law_wishes) rfl
    f_is_whole := He.glo_ok X G (c.fact 4 (f := .glo "is_whole") rfl)
    d_is_whole := c.def_ 4 (d := dd_is_whole) rfl
    f_is_book := He.glo_ok X G (c.fact 5 (f := .glo "is_book") rfl)
    d_is_book := c.def_ 5 (d := dd_is_book) rfl
    f_look_book := He.glo_ok X G (c.fact 6 (f := .glo "look_book") rfl)
    d_look_book := c.def_ 6 (d := dd_look_book) rfl
    f_is_wish := He.glo_ok X G (c.fact 7 (f := .glo "is_wish") rfl)
    d_is_wish := c.def_ 7 (d := dd_is_wish) rfl
    f_renamed := He.glo_ok X G (c.fact 8 (f := .glo "renamed") rfl)
    d_renamed := c.def_ 8 (d := dd_renamed) rfl
    f_turned := He.glo_ok X G (c.fact 9 (f := .glo "turned") rfl)
    d_turned := c.def_ 9 (d := dd_turned) rfl
    f_plus := He.glo_ok X G (c.fact 10 (f := .glo "plus") rfl)
    d_plus := c.def_ 10 (d := dd_plus) rfl
    f_size := He.glo_ok X G (c.fact 11 (f := .glo "size") rfl)
    d_size := c.def_ 11 (d := dd_size) rfl
    f_look_thing := He.glo_ok X G (c.fact 12 (f := .glo "look_thing") rfl)
    d_look_thing := c.def_ 12 (d := dd_look_thing) rfl
    f_ahead_in := He.glo_ok X G (c.fact 13 (f := .glo "ahead_in") rfl)
    d_ahead_in := c.def_ 13 (d := dd_ahead_in) rfl
    f_ahead := He.glo_ok X G (c.fact 14 (f := .glo "ahead") rfl)
    d_ahead := c.def_ 14 (d := dd_ahead) rfl
    f_lifted_wish := He.glo_ok X G (c.fact 15 (f := .glo "lifted_wish") rfl)
    d_lifted_wish := c.def_ 15 (d := dd_lifted_wish) rfl
    f_lifted := He.glo_ok X G (c.fact 16 (f := .glo "lifted") rfl)
    d_lifted := c.def_ 16 (d := dd_lifted) rfl
    f_law := He.glo_ok X G (c.fact 17 (f := .glo "law") rfl)
    d_law := c.def_ 17 (d := dd_law) rfl
    c_GREATEST := conB_ok X G e.1
    c_WISHES := conB_ok X G e.2
  }
/-! ### put together -/
theorem k__law_cell {P : Program} {w : World} {g : Gd} {mg : Str → Option Value} {base : Heap} (t : Ft g mg) : Okf P w g mg base 1 "_law_cell" ["script", "k"] 2 (_law_cell g.ns) := ok__law_cell t (k := 0)
theorem k__law_pick {P : Program} {w : World} {g : Gd} {mg : Str → Option Value} {base : Heap} (t : Ft g mg) : Okf P w g mg base 2 "_law_pick" ["script", "k", "many"] 3 (_law_pick g.ns) := ok__law_pick t (k := 1) ((k__law_cell t).mono (by decide))
theorem k__law_book {P : Program} {w : World} {g : Gd} {mg : Str → Option Value} {base : Heap} (t : Ft g mg) : Okf P w g mg base 3 "_law_book" ["script", "at"] 2 (_law_book g.ns) := ok__law_book t (k := 2) ((k__law_pick t).mono (by decide))
theorem k__law_wishes {P : Program} {w : World} {g : Gd} {mg : Str → Option Value} {base : Heap} (t : Ft g mg) : Okf P w g mg base 1 "_law_wishes" [] 0 _law_wishes := ok__law_wishes t (k := 0)
theorem k_is_whole {P : Program} {w : World} {g : Gd} {mg : Str → Option Value} {base : Heap} (t : Ft g mg) : Okf P w g mg base 1 "is_whole" ["thing", "low", "high"] 3 is_whole := ok_is_whole t (k := 0)
theorem k_is_book {P : Program} {w : World} {g : Gd} {mg : Str → Option Value} {base : Heap} (t : Ft g mg) : Okf P w g mg base 2 "is_book" ["thing"] 1 is_book := ok_is_book t (k := 1) ((k_is_whole t).mono (by decide))
theorem k_look_book {P : Program} {w : World} {g : Gd} {mg : Str → Option Value} {base : Heap} (t : Ft g mg) : Okf P w g mg base 3 "look_book" ["book"] 1 look_book := ok_look_book t (k := 2) ((k_is_book t).mono (by decide))
theorem k_is_wish {P : Program} {w : World} {g : Gd} {mg : Str → Option Value} {base : Heap} (t : Ft g mg) : Okf P w g mg base 2 "is_wish" ["thing"] 1 is_wish := ok_is_wish t (k := 1) ((k_is_whole t).mono (by decide))
theorem k_renamed {P : Program} {w : World} {g : Gd} {mg : Str → Option Value} {base : Heap} (t : Ft g mg) : Okf P w g mg base 4 "renamed" ["book", "order"] 2 renamed := ok_renamed t (k := 3) ((k_look_book t).mono (by decide)) ((k_is_wish t).mono (by decide))
theorem k_turned {P : Program} {w : World} {g : Gd} {mg : Str → Option Value} {base : Heap} (t : Ft g mg) : Okf P w g mg base 4 "turned" ["book"] 1 turned := ok_turned t (k := 3) ((k_look_book t).mono (by decide))
theorem k_plus {P : Program} {w : World} {g : Gd} {mg : Str → Option Value} {base : Heap} (t : Ft g mg) : Okf P w g mg base 4 "plus" ["one", "other"] 2 plus := ok_plus t (k := 3) ((k_look_book t).mono (by decide))
theorem k_size {P : Program} {w : World} {g : Gd} {mg : Str → Option Value} {base : Heap} (t : Ft g mg) : Okf P w g mg base 4 "size" ["book"] 1 size := ok_size t (k := 3) ((k_look_book t).mono (by decide))
theorem k_look_thing {P : Program} {w : World} {g : Gd} {mg : Str → Option Value} {base : Heap} (t : Ft g mg) : Okf P w g mg base 2 "look_thing" ["thing"] 1 look_thing := ok_look_thing t (k := 1) ((k_is_whole t).mono (by decide))
theorem k_ahead_in {P : Program} {w : World} {g : Gd} {mg : Str → Option Value} {base : Heap} (t : Ft g mg) : Okf P w g mg base 1 "ahead_in" ["book", "one", "other"] 3 ahead_in := ok_ahead_in t (k := 0)
theorem k_ahead {P : Program} {w : World} {g : Gd} {mg : Str → Option Value} {base : Heap} (t : Ft g mg) : Okf P w g mg base 4 "ahead" ["book", "one", "other"] 3 ahead := ok_ahead t (k := 3) ((k_look_book t).mono (by decide)) ((k_look_thing t).mono (by decide)) ((k_ahead_in t).mono (by decide))
theorem k_lifted_wish {P : Program} {w : World} {g : Gd} {mg : Str → Option Value} {base : Heap} (t : Ft g mg) : Okf P w g mg base 1 "lifted_wish" ["wish", "thing"] 2 lifted_wish := ok_lifted_wish t (k := 0)
theorem k_lifted {P : Program} {w : World} {g : Gd} {mg : Str → Option Value} {base : Heap} (t : Ft g mg) : Okf P w g mg base 4 "lifted" ["book", "number", "thing"] 3 lifted := ok_lifted t (k := 3) ((k_look_book t).mono (by decide)) ((k_look_thing t).mono (by decide)) ((k_is_whole t).mono (by decide)) ((k_lifted_wish t).mono (by decide))
theorem k_law {P : Program} {w : World} {g : Gd} {mg : Str → Option Value} {base : Heap} (t : Ft g mg) : Okf P w g mg base 5 "law" ["script"] 1 (law g.ns) := ok_law t (k := 4) ((k__law_book t).mono (by decide)) ((k__law_wishes t).mono (by decide)) ((k__law_pick t).mono (by decide)) ((k_renamed t).mono (by decide)) ((k_turned t).mono (by decide)) ((k_plus t).mono (by decide)) ((k_size t).mono (by decide)) ((k_ahead t).mono (by decide)) ((k_lifted t).mono (by decide))
def names0 : List PySem.Str := ["WishError", "NoBook", "NoThing", "NoRanking", "WISHES", "GREATEST", "is_whole", "is_book", "look_book", "is_wish", "look_thing", "size", "plus", "turned", "renamed", "ahead", "ahead_in", "lifted_wish", "lifted", "_law_cell", "_law_pick", "_law_wishes", "_law_book", "_law_more"]
def names : List PySem.Str := names0
abbrev RR : PySem.W.OpenRow := PySem.W.OpenLaw.row PySem.Challenge.rw_wishrules_k03_whole_books_led
abbrev hk : PySem.W.Hook := He.hookX 4 fa fn [] [] ex
def ob (s : PySem.W.SharedT) : He.AlX := He.obsX 4 fa fn [] [] ex (HandSHeadRun.getT s)
theorem ob_eq (s : PySem.W.SharedT) : ob s = hk.obs s.abs := He.obsX_eq (HandSHeadRun.getT_eq s)
theorem run (w : World) : HandSHeadRun.RunEq RR (PySem.W.view RR.prog [27]) hk ob 1680 names w := by
  intro os
  kernel_rfl
theorem facts {w : World} {K : PySem.W.Frag} {h : Heap} {mg : Str → Option Value} {f : Addr} (X : K.In h) (G : h.Ns mainGlobals mg) (hfa : mg ("law" : Str) = some (.ref f)) (c : He.SaysX fa fn [] [] ex w h K) :
    ∃ fd : FuncData, (∀ (s : Shared) (v : Value), BindsTo s fd ⟨[v], []⟩ [("script", v)]) ∧ ∀ base : Heap, K.In base → base.Ns mainGlobals mg → FnOk RR.prog w K mg base (L2.CX RR.prog w) 5 f fd ["script"] (spLaw K (fun _ => 0) 63 law) := by
  obtain ⟨fd, F⟩ := c.t.d.def_ 17 (d := dd_law) rfl
  have e := hfa.symm.trans (He.glo_ok X G (c.t.d.fact 17 (f := .glo "law") rfl))
  cases e
  have b := FunD.bindsA (ps := ["script"]) F fun _ _ _ _ _ _ us hl => match us, hl with | [_], _ => rfl
  exact ⟨fd, fun s v => b s [v] rfl, fun base XB GB => law_ok (fdO_of F) fun sa ns => k_law (ft (g := gd K (fun _ => 0) sa ns) XB GB c.t.d c.more)⟩
theorem holds (ok : ∀ s : List Int, s.length ≤ 63 → ∃ h, law s [.scr] [] = .ok (.bl true) h) : PySem.Challenge.rw_wishrules_k03_whole_books_led.Holds := by
  w_on; o_law
  refine HandSHeadRun.head_any (r := RR) (q := PySem.W.view RR.prog [27]) (H := hk) (ob := ob) (M := 1680) (loose := names) (d := HandSHeadRun.topDef RR.prog 27) (kwd := []) ob_eq
    (by kernel_rfl) (fun s => by kernel_rfl) run (by kernel_rfl) (by kernel_rfl) (by kernel_rfl) (by rfl) (by first | assumption | decide +kernel) (by decide +kernel) ⟨rfl, rfl, rfl, rfl, rfl, by decide +kernel⟩ ?hw ?hc
  case hw => w_witness2
  case hc =>
    refine walk_w (l := PySem.Challenge.rw_wishrules_k03_whole_books_led) (n := 63) (k := 5) (x := "script") (CX := fun w => L2.CX RR.prog w) rfl (by decide) (by kernel_rfl) ⟨rfl, by decide, by decide⟩ ?F (fun w H s e s' z => cx_false RR.prog w H s e s' z)
    intro w mg fa h Y G hmg0
    obtain ⟨K, KX, c⟩ := Y
    have hmg : mg ("law" : PySem.Str) = some (.ref fa) := by
      have e : (HandSHeadRun.topDef RR.prog 27).name = ("law" : PySem.Str) := by kernel_rfl
      rw [← e]
      exact hmg0
    obtain ⟨fd, hb, hF⟩ := facts (w := w) KX G hmg c
    exact ⟨K, fd, spLaw K (fun _ => 0) 63 law, KX, hb, fun H a ns hl hO hS => law_sp ok H a ns hl hO hS, hF⟩
end K03

set_option Elab.async false
set_option linter.all false
set_option maxRecDepth 100000
set_option maxHeartbeats 4000000
set_option autoImplicit false
namespace Wr
open PySem PySem.Spec PyProof.Rows L2
/-! ### decisions, told by omega -/
@[simp] theorem ev_g0 {α : Type} (x : α) (l : List α) : (x :: l)[0]? = some x := rfl
@[simp] theorem dec_t {p : Prop} [Decidable p] (h : p) : decide p = true := decide_eq_true h
@[simp] theorem dec_f {p : Prop} [Decidable p] (h : ¬ p) : decide p = false := decide_eq_false h
section
variable (s : Sg) (h : Hs)
@[simp] theorem ev_min (i j : Int) : kMin [.int i, .int j] h = some (.int (if j < i then j else i), h) := rfl
@[simp] theorem ev_tupT (ys : List Va) : kTuple [.tup ys] h = some (.tup ys, h) := rfl
@[simp] theorem ev_tupL (r : Nat) : kTuple [.ref r] h = (lstArg [.ref r] h).map fun ys => (.tup ys, h) := rfl
@[simp] theorem ev_listL (r : Nat) : kList [.ref r] h = (lstArg [.ref r] h).map fun ys => (.ref h.length, h ++ [.lst ys]) := rfl
@[simp] theorem ev_listT (ys : List Va) : kList [.tup ys] h = some (.ref h.length, h ++ [.lst ys]) := rfl
@[simp] theorem ev_asgT (t : Tg) (f : De) : dAsgT t f s h = (f s h).bindS s fun v h1 => match setT t v s h1 with
  | some s1 => .nx s1 h1
  | none => .no := rfl
@[simp] theorem ev_compR (lo : Int) (n : Nat) (t : Tg) (test : Dt) (el : De) : compL (.rng lo n) t test el s (itLen (.rng lo n) h + 1) 0 h = compS t test el s (rngV lo n) h := by
  refine compS_gen (.rng lo n) (rngV lo n) t test el s (fun i h' hi => rngV_nxt lo n i h') (n + 1) 0 h ?_ (by omega)
  simp [rngV]
@[simp] theorem rng3 : rngV 0 3 = [.int 0, .int 1, .int 2] := rfl
@[simp] theorem rng6e : rngV 0 6 = [.int 0, .int 1, .int 2, .int 3, .int 4, .int 5] := rfl
@[simp] theorem ev_rng1 (f : Da) : dRng1 f s h = (f s h).bind fun vs h1 => match vs with
  | [.int j] => if rgOk 0 j then .ok (.rng 0 j.toNat) h1 else .no
  | _ => .no := rfl
@[simp] theorem rg3 : rgOk 0 3 = true := rfl
@[simp] theorem rg6 : rgOk 0 6 = true := rfl
@[simp] theorem ite_t {α : Type} {c : Prop} [Decidable c] (hc : c) (x y : α) : (if c then x else y) = x := if_pos hc
@[simp] theorem ite_f {α : Type} {c : Prop} [Decidable c] (hc : ¬ c) (x y : α) : (if c then x else y) = y := if_neg hc
theorem stepD {f g : Ds} {live : List Nat} {s : Sg} (s1 : Sg) {h : Hs} (h1 : Hs) (s2 : Sg) {r : RS} (e : f s h = .nx s1 h1) (m : maskS live 0 s1 = s2) (k : g s2 h1 = r) : dSeq f (dDrop live g) s h = r := by
  rw [seqN e, ev_drop, m]; exact k
theorem forC_back {n0 : Nat} {live : List Nat} {it : It'} {t : Tg} {body : Ds} {s0 : Sg} {h0 : Hs} (N : Nat) (hend : nxt it N h0 = some none)
    (step : ∀ j, j < N → ∃ v s1 s2 h2, nxt it j h0 = some (some v) ∧ setT t v s0 h0 = some s1 ∧ (body s1 h0 = .nx s2 h2 ∨ body s1 h0 = .ct s2 h2) ∧ cleanS n0 live s2 h2 = some (s0, h0)) :
    ∀ (f j : Nat) (s : Sg) (h : Hs), j + f = N + 1 → 0 < f → cleanS n0 live s h = some (s0, h0) → forC n0 live it t body f j s h = .nx s0 h0
  | 0, _, _, _, _, z, _ => absurd z (Nat.lt_irrefl 0)
  | f + 1, j, s, h, e, _, hc => by
    unfold forC
    rw [hc]
    simp only
    by_cases hj : j = N
    · subst hj
      rw [hend]
    · obtain ⟨v, s1, s2, h2, e1, e2, e3, e4⟩ := step j (by omega)
      rw [e1]
      simp only
      rw [e2]
      simp only
      rcases e3 with e3 | e3
      · rw [e3]
        simp only
        exact forC_back N hend step f (j + 1) s2 h2 (by omega) (by omega) e4
      · rw [e3]
        simp only
        exact forC_back N hend step f (j + 1) s2 h2 (by omega) (by omega) e4
@[simp] theorem ev_ixT (xs : List Va) (i : Int) : kIxU (.tup xs) (.int i) h = match (L2.atI xs i).map fun v => (v, h) with
  | some r => some r
  | none => kDg (.tup xs) (.int i) h := rfl
end
section
variable (h : Hs)
@[simp] theorem ev_ixR (r : Nat) (i : Int) : kIxU (.ref r) (.int i) h = match (match h[r]? with
  | some (.lst xs) => (L2.atI xs i).map fun v => (v, h)
  | _ => none) with
  | some q => some q
  | none => kDg (.ref r) (.int i) h := rfl
@[simp] theorem ev_eqG (x y : Va) : kEq x y h = match toD h 9 x with
  | some d => match toD h 9 y with
    | some e => some (.bl (PyData.eqv d e), h)
    | none => none
  | none => none := rfl
@[simp] theorem ev_neG (x y : Va) : kNe x y h = match toD h 9 x with
  | some d => match toD h 9 y with
    | some e => some (.bl (!PyData.eqv d e), h)
    | none => none
  | none => none := rfl
@[simp] theorem toD_non (n : Nat) : toD h n .non = some .none := by cases n <;> rfl
@[simp] theorem toD_bl (n : Nat) (b : Bool) : toD h n (.bl b) = some (.bool b) := by cases n <;> rfl
@[simp] theorem toD_int (n : Nat) (i : Int) : toD h n (.int i) = some (.int i) := by cases n <;> rfl
@[simp] theorem toD_tup (n : Nat) (xs : List Va) : toD h (n + 1) (.tup xs) = (mapO (toD h n) xs).map .tuple := rfl
@[simp] theorem toD_ref (n i : Nat) : toD h (n + 1) (.ref i) = match h[i]? with
    | some (.lst xs) => (mapO (toD h n) xs).map .list
    | _ => none := rfl
@[simp] theorem mapO_nil {α β : Type} (f : α → Option β) : mapO f [] = some [] := rfl
@[simp] theorem mapO_cons {α β : Type} (f : α → Option β) (x : α) (l : List α) : mapO f (x :: l) = match f x with
  | some y => (mapO f l).map (y :: ·)
  | none => none := by
  cases e : f x with
  | none => simp [mapO, e]
  | some y => cases e2 : mapO f l <;> simp [mapO, e, e2]
@[simp] theorem eqv_int (i j : Int) : PyData.eqv (.int i) (.int j) = decide (i = j) := by simp [PyData.eqv, bd_int]
@[simp] theorem eqv_tup (xs ys : List PyData) : PyData.eqv (.tuple xs) (.tuple ys) = PyData.eqvAll xs ys := by simp [PyData.eqv]
@[simp] theorem eqv_lst (xs ys : List PyData) : PyData.eqv (.list xs) (.list ys) = PyData.eqvAll xs ys := by simp [PyData.eqv]
@[simp] theorem eqv_all0 : PyData.eqvAll [] [] = true := by simp [PyData.eqvAll]
@[simp] theorem eqv_all1 (x y : PyData) (xs ys : List PyData) : PyData.eqvAll (x :: xs) (y :: ys) = (PyData.eqv x y && PyData.eqvAll xs ys) := by simp [PyData.eqvAll]
@[simp] theorem ev_atI {α : Type} (xs : List α) (i : Int) : L2.atI xs i = (L2.ixN xs.length i).bind fun j => xs[j]? := rfl
@[simp] theorem ev_ixN (n : Nat) (i : Int) : L2.ixN n i = if 0 ≤ i then (if i < n then some i.toNat else none) else if -(n : Int) ≤ i then some (i + n).toNat else none := rfl
end
end Wr
namespace Pg
open PySem PySem.Spec PyProof.Rows L2 Wr
section
variable (a b c d e f : Int)
abbrev B99 (a b c d e f : Int) : Prop := (0 ≤ a ∧ a ≤ 99) ∧ (0 ≤ b ∧ b ≤ 99) ∧ (0 ≤ c ∧ c ≤ 99) ∧ (0 ≤ d ∧ d ≤ 99) ∧ (0 ≤ e ∧ e ≤ 99) ∧ (0 ≤ f ∧ f ≤ 99)
theorem B99.bok {a b c d e f : Int} (h : B99 a b c d e f) : Bok a b c d e f := by
  obtain ⟨h0, h1, h2, h3, h4, h5⟩ := h
  intro x hx
  simp only [List.mem_cons, List.not_mem_nil, or_false] at hx
  rcases hx with rfl | rfl | rfl | rfl | rfl | rfl <;> assumption
def renB : Nat → Int → Int → Int → Int → Int → Int → Va
  | 0, a, b, c, d, e, f => Bk a b c d e f
  | 1, a, b, c, d, e, f => Bk b a e f c d
  | 2, a, b, c, d, e, f => Bk c d a b f e
  | 3, a, b, c, d, e, f => Bk e f b a d c
  | 4, a, b, c, d, e, f => Bk d c f e a b
  | _, a, b, c, d, e, f => Bk f e d c b a
theorem renamed_ok (hb : Bok a b c d e f) (j : Nat) (hj : j < 6) (h : Hs) : callD renamed [Bk a b c d e f, wv j] h = .ok (renB j a b c d e f) h := by
  have w := look_call a b c d e f hb []
  have w2 := is_wish_ok j hj []
  have e1 : dExpr (dCall look_book 1 (aCons (dVar 0) aNil)) [some (Bk a b c d e f), some (wv j), none, none, none, none] [] = .nx [some (Bk a b c d e f), some (wv j), none, none, none, none] [] := by simp [w]
  have e2 : dIfS (dNot (dTest (dCall is_wish 1 (aCons (dVar 1) aNil)))) dNo dNx [some (Bk a b c d e f), some (wv j), none, none, none, none] [] = .nx [some (Bk a b c d e f), some (wv j), none, none, none, none] [] := by simp [w2]
  rcases lt6 hj with rfl | rfl | rfl | rfl | rfl | rfl
  · exact callD_flat rfl rfl rfl (stepC _ _ e1 (stepC _ _ e2 (by kernel_rfl)))
  · exact callD_flat rfl rfl rfl (stepC _ _ e1 (stepC _ _ e2 (by kernel_rfl)))
  · exact callD_flat rfl rfl rfl (stepC _ _ e1 (stepC _ _ e2 (by kernel_rfl)))
  · exact callD_flat rfl rfl rfl (stepC _ _ e1 (stepC _ _ e2 (by kernel_rfl)))
  · exact callD_flat rfl rfl rfl (stepC _ _ e1 (stepC _ _ e2 (by kernel_rfl)))
  · exact callD_flat rfl rfl rfl (stepC _ _ e1 (stepC _ _ e2 (by kernel_rfl)))
theorem turned_s (h : Hs) (H : B99 a b c d e f) : callD turned [.tup [.int a, .int b, .int c, .int d, .int e, .int f]] h = .ok (.tup [.int f, .int d, .int e, .int b, .int c, .int a]) h := turned_ok a b c d e f H.bok h
theorem size_s (h : Hs) (H : B99 a b c d e f) : callD size [.tup [.int a, .int b, .int c, .int d, .int e, .int f]] h = .ok (.int (a + (b + (c + (d + (e + (f + 0))))))) h := size_ok a b c d e f H.bok h
theorem ren_s0 (h : Hs) (H : B99 a b c d e f) : callD renamed [.tup [.int a, .int b, .int c, .int d, .int e, .int f], .tup [.int 0, .int 1, .int 2]] h = .ok (.tup [.int a, .int b, .int c, .int d, .int e, .int f]) h := renamed_ok a b c d e f H.bok 0 (by decide) h
theorem ren_s1 (h : Hs) (H : B99 a b c d e f) : callD renamed [.tup [.int a, .int b, .int c, .int d, .int e, .int f], .tup [.int 0, .int 2, .int 1]] h = .ok (.tup [.int b, .int a, .int e, .int f, .int c, .int d]) h := renamed_ok a b c d e f H.bok 1 (by decide) h
theorem ren_s2 (h : Hs) (H : B99 a b c d e f) : callD renamed [.tup [.int a, .int b, .int c, .int d, .int e, .int f], .tup [.int 1, .int 0, .int 2]] h = .ok (.tup [.int c, .int d, .int a, .int b, .int f, .int e]) h := renamed_ok a b c d e f H.bok 2 (by decide) h
theorem ren_s3 (h : Hs) (H : B99 a b c d e f) : callD renamed [.tup [.int a, .int b, .int c, .int d, .int e, .int f], .tup [.int 1, .int 2, .int 0]] h = .ok (.tup [.int e, .int f, .int b, .int a, .int d, .int c]) h := renamed_ok a b c d e f H.bok 3 (by decide) h
theorem ren_s4 (h : Hs) (H : B99 a b c d e f) : callD renamed [.tup [.int a, .int b, .int c, .int d, .int e, .int f], .tup [.int 2, .int 0, .int 1]] h = .ok (.tup [.int d, .int c, .int f, .int e, .int a, .int b]) h := renamed_ok a b c d e f H.bok 4 (by decide) h
theorem ren_s5 (h : Hs) (H : B99 a b c d e f) : callD renamed [.tup [.int a, .int b, .int c, .int d, .int e, .int f], .tup [.int 2, .int 1, .int 0]] h = .ok (.tup [.int f, .int e, .int d, .int c, .int b, .int a]) h := renamed_ok a b c d e f H.bok 5 (by decide) h
theorem plus_s (a' b' c' d' e' f' : Int) (h : Hs) (H : B99 a b c d e f) (H' : B99 a' b' c' d' e' f') (H2 : B99 (a + a') (b + b') (c + c') (d + d') (e + e') (f + f')) : callD plus [.tup [.int a, .int b, .int c, .int d, .int e, .int f], .tup [.int (a'), .int (b'), .int (c'), .int (d'), .int (e'), .int (f')]] h = .ok (.tup [.int (a + a'), .int (b + b'), .int (c + c'), .int (d + d'), .int (e + e'), .int (f + f')]) h := plus_ok a b c d e f a' b' c' d' e' f' H.bok H'.bok H2.bok h
theorem ahead_s00 (h : Hs) (H : B99 a b c d e f) : callD ahead [.tup [.int a, .int b, .int c, .int d, .int e, .int f], .int 0, .int 0] h = .ok (.int (0)) h := ahead_call a b c d e f H.bok 0 0 (by decide) (by decide) h
theorem more_s00 (h : Hs) : callD more [.tup [.int a, .int b, .int c, .int d, .int e, .int f], .int 0, .int 0] h = .ok (.int (0 - (0))) h := more_ok a b c d e f 0 0 (by decide) (by decide) h
theorem ahead_s01 (h : Hs) (H : B99 a b c d e f) : callD ahead [.tup [.int a, .int b, .int c, .int d, .int e, .int f], .int 0, .int 1] h = .ok (.int (a + (b + (e + 0)))) h := ahead_call a b c d e f H.bok 0 1 (by decide) (by decide) h
theorem more_s01 (h : Hs) : callD more [.tup [.int a, .int b, .int c, .int d, .int e, .int f], .int 0, .int 1] h = .ok (.int ((a + (b + (e + 0))) - (c + (d + (f + 0))))) h := more_ok a b c d e f 0 1 (by decide) (by decide) h
theorem ahead_s02 (h : Hs) (H : B99 a b c d e f) : callD ahead [.tup [.int a, .int b, .int c, .int d, .int e, .int f], .int 0, .int 2] h = .ok (.int (a + (b + (c + 0)))) h := ahead_call a b c d e f H.bok 0 2 (by decide) (by decide) h
theorem more_s02 (h : Hs) : callD more [.tup [.int a, .int b, .int c, .int d, .int e, .int f], .int 0, .int 2] h = .ok (.int ((a + (b + (c + 0))) - (d + (e + (f + 0))))) h := more_ok a b c d e f 0 2 (by decide) (by decide) h
theorem ahead_s10 (h : Hs) (H : B99 a b c d e f) : callD ahead [.tup [.int a, .int b, .int c, .int d, .int e, .int f], .int 1, .int 0] h = .ok (.int (c + (d + (f + 0)))) h := ahead_call a b c d e f H.bok 1 0 (by decide) (by decide) h
theorem more_s10 (h : Hs) : callD more [.tup [.int a, .int b, .int c, .int d, .int e, .int f], .int 1, .int 0] h = .ok (.int ((c + (d + (f + 0))) - (a + (b + (e + 0))))) h := more_ok a b c d e f 1 0 (by decide) (by decide) h
theorem ahead_s11 (h : Hs) (H : B99 a b c d e f) : callD ahead [.tup [.int a, .int b, .int c, .int d, .int e, .int f], .int 1, .int 1] h = .ok (.int (0)) h := ahead_call a b c d e f H.bok 1 1 (by decide) (by decide) h
theorem more_s11 (h : Hs) : callD more [.tup [.int a, .int b, .int c, .int d, .int e, .int f], .int 1, .int 1] h = .ok (.int (0 - (0))) h := more_ok a b c d e f 1 1 (by decide) (by decide) h
theorem ahead_s12 (h : Hs) (H : B99 a b c d e f) : callD ahead [.tup [.int a, .int b, .int c, .int d, .int e, .int f], .int 1, .int 2] h = .ok (.int (a + (c + (d + 0)))) h := ahead_call a b c d e f H.bok 1 2 (by decide) (by decide) h
theorem more_s12 (h : Hs) : callD more [.tup [.int a, .int b, .int c, .int d, .int e, .int f], .int 1, .int 2] h = .ok (.int ((a + (c + (d + 0))) - (b + (e + (f + 0))))) h := more_ok a b c d e f 1 2 (by decide) (by decide) h
theorem ahead_s20 (h : Hs) (H : B99 a b c d e f) : callD ahead [.tup [.int a, .int b, .int c, .int d, .int e, .int f], .int 2, .int 0] h = .ok (.int (d + (e + (f + 0)))) h := ahead_call a b c d e f H.bok 2 0 (by decide) (by decide) h
theorem more_s20 (h : Hs) : callD more [.tup [.int a, .int b, .int c, .int d, .int e, .int f], .int 2, .int 0] h = .ok (.int ((d + (e + (f + 0))) - (a + (b + (c + 0))))) h := more_ok a b c d e f 2 0 (by decide) (by decide) h
theorem ahead_s21 (h : Hs) (H : B99 a b c d e f) : callD ahead [.tup [.int a, .int b, .int c, .int d, .int e, .int f], .int 2, .int 1] h = .ok (.int (b + (e + (f + 0)))) h := ahead_call a b c d e f H.bok 2 1 (by decide) (by decide) h
theorem more_s21 (h : Hs) : callD more [.tup [.int a, .int b, .int c, .int d, .int e, .int f], .int 2, .int 1] h = .ok (.int ((b + (e + (f + 0))) - (a + (c + (d + 0))))) h := more_ok a b c d e f 2 1 (by decide) (by decide) h
theorem ahead_s22 (h : Hs) (H : B99 a b c d e f) : callD ahead [.tup [.int a, .int b, .int c, .int d, .int e, .int f], .int 2, .int 2] h = .ok (.int (0)) h := ahead_call a b c d e f H.bok 2 2 (by decide) (by decide) h
theorem more_s22 (h : Hs) : callD more [.tup [.int a, .int b, .int c, .int d, .int e, .int f], .int 2, .int 2] h = .ok (.int (0 - (0))) h := more_ok a b c d e f 2 2 (by decide) (by decide) h
theorem look_s (h : Hs) (H : B99 a b c d e f) : callD look_book [.tup [.int a, .int b, .int c, .int d, .int e, .int f]] h = .ok .non h := look_call a b c d e f H.bok h
theorem standings_s (h : Hs) (H : B99 a b c d e f) : callD standings [.tup [.int a, .int b, .int c, .int d, .int e, .int f]] h = .ok (stV a b c d e f) h := standings_ok a b c d e f H.bok h
theorem scores_s (p q r : Int) (h : Hs) (H : B99 a b c d e f) (hp : 0 ≤ p ∧ p ≤ 9) (hq : 0 ≤ q ∧ q ≤ 9) (hr : 0 ≤ r ∧ r ≤ 9) : callD scores [.tup [.int p, .int q, .int r], .tup [.int a, .int b, .int c, .int d, .int e, .int f]] h = .ok (.tup [.int ((a + b) * p + ((c + e) * q + (d + f) * r)), .int ((c + d) * p + ((a + f) * q + (b + e) * r)), .int ((e + f) * p + ((b + d) * q + (a + c) * r))]) h := scores_ok a b c d e f H.bok p q r hp hq hr h
theorem margins_s (h : Hs) (H : B99 a b c d e f) : callD margins [.tup [.int a, .int b, .int c, .int d, .int e, .int f]] h = .ok (.tup [.int ((a + (b + (e + 0))) - (c + (d + (f + 0)))), .int ((a + (b + (c + 0))) - (d + (e + (f + 0)))), .int ((a + (c + (d + 0))) - (b + (e + (f + 0))))]) h := margins_ok a b c d e f H.bok h
theorem pickN (ns : List Int) (k m : Int) (hk : 0 ≤ k) (hm : 0 < m) : ∃ r : Nat, (r : Int) < m ∧ ∀ h, callD (_law_pick ns) [.scr, .int k, .int m] h = .ok (.int r) h := by
  obtain ⟨c, hc⟩ := cell_ok ns k hk
  have w : ∀ h', callD (_law_cell ns) [.scr, .int k] h' = .ok (.int c) h' := fun h' => callD_flat rfl rfl rfl hc
  generalize hd : (c + 6151 * (k + 1)) * 40692 % 2147483399 = d
  have h1 : 0 ≤ d := by rw [← hd]; exact Int.emod_nonneg _ (by decide)
  have h2 : d < 2147483399 := by rw [← hd]; exact Int.emod_lt_of_pos _ (by decide)
  have z1 : -18446744073709551616 < d := by omega
  have z2 : d < 18446744073709551616 := by omega
  have q1 : 0 ≤ (d * d + d / 31) % 2147483629 % m := Int.emod_nonneg _ (by omega)
  have q2 : (d * d + d / 31) % 2147483629 % m < m := Int.emod_lt_of_pos _ hm
  obtain ⟨r, hr⟩ := Int.eq_ofNat_of_zero_le q1
  refine ⟨r, by omega, fun h => ?_⟩
  rw [← hr]
  refine callD_flat rfl rfl rfl ?_
  simp [_law_pick, D__law_pick, fnD, w, kMod, hd, z1, z2, kFdivW, hm, toRs]
  rfl
end
end Pg

set_option Elab.async false
set_option linter.all false
set_option maxRecDepth 100000
set_option maxHeartbeats 4000000
set_option autoImplicit false
namespace Pg
open PySem PySem.Spec PyProof.Rows L2 Wr
section
variable (a b c d e f : Int)
theorem lift_0_0 (h : Hs) (hb : B99 a b c d e f) (h0 : a ≠ 0) (h1 : a - 1 < 99) : callD lifted [Bk a b c d e f, .int 0, .int 0] h = .ok (Bk (a - 1 + 1) b c d e f) h := by
  refine callD_flat rfl rfl rfl ?_
  have w := fun h => look_call a b c d e f hb.bok h
  have hb' : B99 (a - 1 + 1) b c d e f := by omega
  have w2 := fun h => look_call _ _ _ _ _ _ hb'.bok h
  have w1 : ∀ h, callD look_thing [.int 0] h = .ok .non h := fun h => thing_call 0 (by decide) h
  unfold lifted D_lifted fnD
  refine stepC [some (Bk a b c d e f), some (.int 0), some (.int 0), none, none] [] (by simp [w]) ?_
  refine stepC [some (Bk a b c d e f), some (.int 0), some (.int 0), none, none] [] (by simp [w1]) ?_
  refine stepC [some (Bk a b c d e f), some (.int 0), some (.int 0), none, none] [] (ifF [] ?_ rfl) ?_
  · have e1 : callD is_whole [.int 0, .int 0, .int 5] [] = .ok (.bl true) [] := callD_flat rfl rfl rfl (by kernel_rfl)
    have e2 : kIxU (Bk a b c d e f) (.int 0) [] = some (.int a, []) := rfl
    simp [e1, e2, h0]
  refine stepC [some (Bk a b c d e f), some (.int 0), some (.int 0), some (.ref 0), none] [.lst [.int a, .int b, .int c, .int d, .int e, .int f]] (by kernel_rfl) ?_
  refine stepC [some (Bk a b c d e f), some (.int 0), some (.int 0), some (.ref 0), none] [.lst [.int (a - 1), .int b, .int c, .int d, .int e, .int f]] (by kernel_rfl) ?_
  refine stepC [some (Bk a b c d e f), some (.int 0), some (.int 0), some (.ref 0), some (.int 0)] [.lst [.int (a - 1), .int b, .int c, .int d, .int e, .int f]] (by kernel_rfl) ?_
  refine stepC [some (Bk a b c d e f), some (.int 0), some (.int 0), some (.ref 0), some (.int 0)] [.lst [.int (a - 1 + 1), .int b, .int c, .int d, .int e, .int f]] (by kernel_rfl) ?_
  refine stepC [some (Bk a b c d e f), some (.int 0), some (.int 0), some (.ref 0), some (.int 0)] [.lst [.int (a - 1 + 1), .int b, .int c, .int d, .int e, .int f]] ?_ (by kernel_rfl)
  have e3 : dB kTuple (aCons (dVar 3) aNil) [some (Bk a b c d e f), some (.int 0), some (.int 0), some (.ref 0), some (.int 0)] [.lst [.int (a - 1 + 1), .int b, .int c, .int d, .int e, .int f]] = .ok (Bk (a - 1 + 1) b c d e f) [.lst [.int (a - 1 + 1), .int b, .int c, .int d, .int e, .int f]] := rfl
  rw [ev_expr, ev_call, ev_cons, e3, ev_bind_ok, ev_nil, ev_bind_ok, ev_bind_ok]
  have e4 : ([Bk (a - 1 + 1) b c d e f].length == 1) = true := rfl
  rw [if_pos e4, w2]
  rfl
theorem lift_0_1 (h : Hs) (hb : B99 a b c d e f) (h0 : a ≠ 0) (h1 : c < 99) : callD lifted [Bk a b c d e f, .int 0, .int 1] h = .ok (Bk (a - 1) b (c + 1) d e f) h := by
  refine callD_flat rfl rfl rfl ?_
  have w := fun h => look_call a b c d e f hb.bok h
  have hb' : B99 (a - 1) b (c + 1) d e f := by omega
  have w2 := fun h => look_call _ _ _ _ _ _ hb'.bok h
  have w1 : ∀ h, callD look_thing [.int 1] h = .ok .non h := fun h => thing_call 1 (by decide) h
  unfold lifted D_lifted fnD
  refine stepC [some (Bk a b c d e f), some (.int 0), some (.int 1), none, none] [] (by simp [w]) ?_
  refine stepC [some (Bk a b c d e f), some (.int 0), some (.int 1), none, none] [] (by simp [w1]) ?_
  refine stepC [some (Bk a b c d e f), some (.int 0), some (.int 1), none, none] [] (ifF [] ?_ rfl) ?_
  · have e1 : callD is_whole [.int 0, .int 0, .int 5] [] = .ok (.bl true) [] := callD_flat rfl rfl rfl (by kernel_rfl)
    have e2 : kIxU (Bk a b c d e f) (.int 0) [] = some (.int a, []) := rfl
    simp [e1, e2, h0]
  refine stepC [some (Bk a b c d e f), some (.int 0), some (.int 1), some (.ref 0), none] [.lst [.int a, .int b, .int c, .int d, .int e, .int f]] (by kernel_rfl) ?_
  refine stepC [some (Bk a b c d e f), some (.int 0), some (.int 1), some (.ref 0), none] [.lst [.int (a - 1), .int b, .int c, .int d, .int e, .int f]] (by kernel_rfl) ?_
  refine stepC [some (Bk a b c d e f), some (.int 0), some (.int 1), some (.ref 0), some (.int 2)] [.lst [.int (a - 1), .int b, .int c, .int d, .int e, .int f]] (by kernel_rfl) ?_
  refine stepC [some (Bk a b c d e f), some (.int 0), some (.int 1), some (.ref 0), some (.int 2)] [.lst [.int (a - 1), .int b, .int (c + 1), .int d, .int e, .int f]] (by kernel_rfl) ?_
  refine stepC [some (Bk a b c d e f), some (.int 0), some (.int 1), some (.ref 0), some (.int 2)] [.lst [.int (a - 1), .int b, .int (c + 1), .int d, .int e, .int f]] ?_ (by kernel_rfl)
  have e3 : dB kTuple (aCons (dVar 3) aNil) [some (Bk a b c d e f), some (.int 0), some (.int 1), some (.ref 0), some (.int 2)] [.lst [.int (a - 1), .int b, .int (c + 1), .int d, .int e, .int f]] = .ok (Bk (a - 1) b (c + 1) d e f) [.lst [.int (a - 1), .int b, .int (c + 1), .int d, .int e, .int f]] := rfl
  rw [ev_expr, ev_call, ev_cons, e3, ev_bind_ok, ev_nil, ev_bind_ok, ev_bind_ok]
  have e4 : ([Bk (a - 1) b (c + 1) d e f].length == 1) = true := rfl
  rw [if_pos e4, w2]
  rfl
theorem lift_0_2 (h : Hs) (hb : B99 a b c d e f) (h0 : a ≠ 0) (h1 : b < 99) : callD lifted [Bk a b c d e f, .int 0, .int 2] h = .ok (Bk (a - 1) (b + 1) c d e f) h := by
  refine callD_flat rfl rfl rfl ?_
  have w := fun h => look_call a b c d e f hb.bok h
  have hb' : B99 (a - 1) (b + 1) c d e f := by omega
  have w2 := fun h => look_call _ _ _ _ _ _ hb'.bok h
  have w1 : ∀ h, callD look_thing [.int 2] h = .ok .non h := fun h => thing_call 2 (by decide) h
  unfold lifted D_lifted fnD
  refine stepC [some (Bk a b c d e f), some (.int 0), some (.int 2), none, none] [] (by simp [w]) ?_
  refine stepC [some (Bk a b c d e f), some (.int 0), some (.int 2), none, none] [] (by simp [w1]) ?_
  refine stepC [some (Bk a b c d e f), some (.int 0), some (.int 2), none, none] [] (ifF [] ?_ rfl) ?_
  · have e1 : callD is_whole [.int 0, .int 0, .int 5] [] = .ok (.bl true) [] := callD_flat rfl rfl rfl (by kernel_rfl)
    have e2 : kIxU (Bk a b c d e f) (.int 0) [] = some (.int a, []) := rfl
    simp [e1, e2, h0]
  refine stepC [some (Bk a b c d e f), some (.int 0), some (.int 2), some (.ref 0), none] [.lst [.int a, .int b, .int c, .int d, .int e, .int f]] (by kernel_rfl) ?_
  refine stepC [some (Bk a b c d e f), some (.int 0), some (.int 2), some (.ref 0), none] [.lst [.int (a - 1), .int b, .int c, .int d, .int e, .int f]] (by kernel_rfl) ?_
  refine stepC [some (Bk a b c d e f), some (.int 0), some (.int 2), some (.ref 0), some (.int 1)] [.lst [.int (a - 1), .int b, .int c, .int d, .int e, .int f]] (by kernel_rfl) ?_
  refine stepC [some (Bk a b c d e f), some (.int 0), some (.int 2), some (.ref 0), some (.int 1)] [.lst [.int (a - 1), .int (b + 1), .int c, .int d, .int e, .int f]] (by kernel_rfl) ?_
  refine stepC [some (Bk a b c d e f), some (.int 0), some (.int 2), some (.ref 0), some (.int 1)] [.lst [.int (a - 1), .int (b + 1), .int c, .int d, .int e, .int f]] ?_ (by kernel_rfl)
  have e3 : dB kTuple (aCons (dVar 3) aNil) [some (Bk a b c d e f), some (.int 0), some (.int 2), some (.ref 0), some (.int 1)] [.lst [.int (a - 1), .int (b + 1), .int c, .int d, .int e, .int f]] = .ok (Bk (a - 1) (b + 1) c d e f) [.lst [.int (a - 1), .int (b + 1), .int c, .int d, .int e, .int f]] := rfl
  rw [ev_expr, ev_call, ev_cons, e3, ev_bind_ok, ev_nil, ev_bind_ok, ev_bind_ok]
  have e4 : ([Bk (a - 1) (b + 1) c d e f].length == 1) = true := rfl
  rw [if_pos e4, w2]
  rfl
theorem lift_1_0 (h : Hs) (hb : B99 a b c d e f) (h0 : b ≠ 0) (h1 : b - 1 < 99) : callD lifted [Bk a b c d e f, .int 1, .int 0] h = .ok (Bk a (b - 1 + 1) c d e f) h := by
  refine callD_flat rfl rfl rfl ?_
  have w := fun h => look_call a b c d e f hb.bok h
  have hb' : B99 a (b - 1 + 1) c d e f := by omega
  have w2 := fun h => look_call _ _ _ _ _ _ hb'.bok h
  have w1 : ∀ h, callD look_thing [.int 0] h = .ok .non h := fun h => thing_call 0 (by decide) h
  unfold lifted D_lifted fnD
  refine stepC [some (Bk a b c d e f), some (.int 1), some (.int 0), none, none] [] (by simp [w]) ?_
  refine stepC [some (Bk a b c d e f), some (.int 1), some (.int 0), none, none] [] (by simp [w1]) ?_
  refine stepC [some (Bk a b c d e f), some (.int 1), some (.int 0), none, none] [] (ifF [] ?_ rfl) ?_
  · have e1 : callD is_whole [.int 1, .int 0, .int 5] [] = .ok (.bl true) [] := callD_flat rfl rfl rfl (by kernel_rfl)
    have e2 : kIxU (Bk a b c d e f) (.int 1) [] = some (.int b, []) := rfl
    simp [e1, e2, h0]
  refine stepC [some (Bk a b c d e f), some (.int 1), some (.int 0), some (.ref 0), none] [.lst [.int a, .int b, .int c, .int d, .int e, .int f]] (by kernel_rfl) ?_
  refine stepC [some (Bk a b c d e f), some (.int 1), some (.int 0), some (.ref 0), none] [.lst [.int a, .int (b - 1), .int c, .int d, .int e, .int f]] (by kernel_rfl) ?_
  refine stepC [some (Bk a b c d e f), some (.int 1), some (.int 0), some (.ref 0), some (.int 1)] [.lst [.int a, .int (b - 1), .int c, .int d, .int e, .int f]] (by kernel_rfl) ?_
  refine stepC [some (Bk a b c d e f), some (.int 1), some (.int 0), some (.ref 0), some (.int 1)] [.lst [.int a, .int (b - 1 + 1), .int c, .int d, .int e, .int f]] (by kernel_rfl) ?_
  refine stepC [some (Bk a b c d e f), some (.int 1), some (.int 0), some (.ref 0), some (.int 1)] [.lst [.int a, .int (b - 1 + 1), .int c, .int d, .int e, .int f]] ?_ (by kernel_rfl)
  have e3 : dB kTuple (aCons (dVar 3) aNil) [some (Bk a b c d e f), some (.int 1), some (.int 0), some (.ref 0), some (.int 1)] [.lst [.int a, .int (b - 1 + 1), .int c, .int d, .int e, .int f]] = .ok (Bk a (b - 1 + 1) c d e f) [.lst [.int a, .int (b - 1 + 1), .int c, .int d, .int e, .int f]] := rfl
  rw [ev_expr, ev_call, ev_cons, e3, ev_bind_ok, ev_nil, ev_bind_ok, ev_bind_ok]
  have e4 : ([Bk a (b - 1 + 1) c d e f].length == 1) = true := rfl
  rw [if_pos e4, w2]
  rfl
theorem lift_1_2 (h : Hs) (hb : B99 a b c d e f) (h0 : b ≠ 0) (h1 : e < 99) : callD lifted [Bk a b c d e f, .int 1, .int 2] h = .ok (Bk a (b - 1) c d (e + 1) f) h := by
  refine callD_flat rfl rfl rfl ?_
  have w := fun h => look_call a b c d e f hb.bok h
  have hb' : B99 a (b - 1) c d (e + 1) f := by omega
  have w2 := fun h => look_call _ _ _ _ _ _ hb'.bok h
  have w1 : ∀ h, callD look_thing [.int 2] h = .ok .non h := fun h => thing_call 2 (by decide) h
  unfold lifted D_lifted fnD
  refine stepC [some (Bk a b c d e f), some (.int 1), some (.int 2), none, none] [] (by simp [w]) ?_
  refine stepC [some (Bk a b c d e f), some (.int 1), some (.int 2), none, none] [] (by simp [w1]) ?_
  refine stepC [some (Bk a b c d e f), some (.int 1), some (.int 2), none, none] [] (ifF [] ?_ rfl) ?_
  · have e1 : callD is_whole [.int 1, .int 0, .int 5] [] = .ok (.bl true) [] := callD_flat rfl rfl rfl (by kernel_rfl)
    have e2 : kIxU (Bk a b c d e f) (.int 1) [] = some (.int b, []) := rfl
    simp [e1, e2, h0]
  refine stepC [some (Bk a b c d e f), some (.int 1), some (.int 2), some (.ref 0), none] [.lst [.int a, .int b, .int c, .int d, .int e, .int f]] (by kernel_rfl) ?_
  refine stepC [some (Bk a b c d e f), some (.int 1), some (.int 2), some (.ref 0), none] [.lst [.int a, .int (b - 1), .int c, .int d, .int e, .int f]] (by kernel_rfl) ?_
  refine stepC [some (Bk a b c d e f), some (.int 1), some (.int 2), some (.ref 0), some (.int 4)] [.lst [.int a, .int (b - 1), .int c, .int d, .int e, .int f]] (by kernel_rfl) ?_
  refine stepC [some (Bk a b c d e f), some (.int 1), some (.int 2), some (.ref 0), some (.int 4)] [.lst [.int a, .int (b - 1), .int c, .int d, .int (e + 1), .int f]] (by kernel_rfl) ?_
  refine stepC [some (Bk a b c d e f), some (.int 1), some (.int 2), some (.ref 0), some (.int 4)] [.lst [.int a, .int (b - 1), .int c, .int d, .int (e + 1), .int f]] ?_ (by kernel_rfl)
  have e3 : dB kTuple (aCons (dVar 3) aNil) [some (Bk a b c d e f), some (.int 1), some (.int 2), some (.ref 0), some (.int 4)] [.lst [.int a, .int (b - 1), .int c, .int d, .int (e + 1), .int f]] = .ok (Bk a (b - 1) c d (e + 1) f) [.lst [.int a, .int (b - 1), .int c, .int d, .int (e + 1), .int f]] := rfl
  rw [ev_expr, ev_call, ev_cons, e3, ev_bind_ok, ev_nil, ev_bind_ok, ev_bind_ok]
  have e4 : ([Bk a (b - 1) c d (e + 1) f].length == 1) = true := rfl
  rw [if_pos e4, w2]
  rfl
theorem lift_1_1 (h : Hs) (hb : B99 a b c d e f) (h0 : b ≠ 0) (h1 : a < 99) : callD lifted [Bk a b c d e f, .int 1, .int 1] h = .ok (Bk (a + 1) (b - 1) c d e f) h := by
  refine callD_flat rfl rfl rfl ?_
  have w := fun h => look_call a b c d e f hb.bok h
  have hb' : B99 (a + 1) (b - 1) c d e f := by omega
  have w2 := fun h => look_call _ _ _ _ _ _ hb'.bok h
  have w1 : ∀ h, callD look_thing [.int 1] h = .ok .non h := fun h => thing_call 1 (by decide) h
  unfold lifted D_lifted fnD
  refine stepC [some (Bk a b c d e f), some (.int 1), some (.int 1), none, none] [] (by simp [w]) ?_
  refine stepC [some (Bk a b c d e f), some (.int 1), some (.int 1), none, none] [] (by simp [w1]) ?_
  refine stepC [some (Bk a b c d e f), some (.int 1), some (.int 1), none, none] [] (ifF [] ?_ rfl) ?_
  · have e1 : callD is_whole [.int 1, .int 0, .int 5] [] = .ok (.bl true) [] := callD_flat rfl rfl rfl (by kernel_rfl)
    have e2 : kIxU (Bk a b c d e f) (.int 1) [] = some (.int b, []) := rfl
    simp [e1, e2, h0]
  refine stepC [some (Bk a b c d e f), some (.int 1), some (.int 1), some (.ref 0), none] [.lst [.int a, .int b, .int c, .int d, .int e, .int f]] (by kernel_rfl) ?_
  refine stepC [some (Bk a b c d e f), some (.int 1), some (.int 1), some (.ref 0), none] [.lst [.int a, .int (b - 1), .int c, .int d, .int e, .int f]] (by kernel_rfl) ?_
  refine stepC [some (Bk a b c d e f), some (.int 1), some (.int 1), some (.ref 0), some (.int 0)] [.lst [.int a, .int (b - 1), .int c, .int d, .int e, .int f]] (by kernel_rfl) ?_
  refine stepC [some (Bk a b c d e f), some (.int 1), some (.int 1), some (.ref 0), some (.int 0)] [.lst [.int (a + 1), .int (b - 1), .int c, .int d, .int e, .int f]] (by kernel_rfl) ?_
  refine stepC [some (Bk a b c d e f), some (.int 1), some (.int 1), some (.ref 0), some (.int 0)] [.lst [.int (a + 1), .int (b - 1), .int c, .int d, .int e, .int f]] ?_ (by kernel_rfl)
  have e3 : dB kTuple (aCons (dVar 3) aNil) [some (Bk a b c d e f), some (.int 1), some (.int 1), some (.ref 0), some (.int 0)] [.lst [.int (a + 1), .int (b - 1), .int c, .int d, .int e, .int f]] = .ok (Bk (a + 1) (b - 1) c d e f) [.lst [.int (a + 1), .int (b - 1), .int c, .int d, .int e, .int f]] := rfl
  rw [ev_expr, ev_call, ev_cons, e3, ev_bind_ok, ev_nil, ev_bind_ok, ev_bind_ok]
  have e4 : ([Bk (a + 1) (b - 1) c d e f].length == 1) = true := rfl
  rw [if_pos e4, w2]
  rfl
theorem lift_2_1 (h : Hs) (hb : B99 a b c d e f) (h0 : c ≠ 0) (h1 : c - 1 < 99) : callD lifted [Bk a b c d e f, .int 2, .int 1] h = .ok (Bk a b (c - 1 + 1) d e f) h := by
  refine callD_flat rfl rfl rfl ?_
  have w := fun h => look_call a b c d e f hb.bok h
  have hb' : B99 a b (c - 1 + 1) d e f := by omega
  have w2 := fun h => look_call _ _ _ _ _ _ hb'.bok h
  have w1 : ∀ h, callD look_thing [.int 1] h = .ok .non h := fun h => thing_call 1 (by decide) h
  unfold lifted D_lifted fnD
  refine stepC [some (Bk a b c d e f), some (.int 2), some (.int 1), none, none] [] (by simp [w]) ?_
  refine stepC [some (Bk a b c d e f), some (.int 2), some (.int 1), none, none] [] (by simp [w1]) ?_
  refine stepC [some (Bk a b c d e f), some (.int 2), some (.int 1), none, none] [] (ifF [] ?_ rfl) ?_
  · have e1 : callD is_whole [.int 2, .int 0, .int 5] [] = .ok (.bl true) [] := callD_flat rfl rfl rfl (by kernel_rfl)
    have e2 : kIxU (Bk a b c d e f) (.int 2) [] = some (.int c, []) := rfl
    simp [e1, e2, h0]
  refine stepC [some (Bk a b c d e f), some (.int 2), some (.int 1), some (.ref 0), none] [.lst [.int a, .int b, .int c, .int d, .int e, .int f]] (by kernel_rfl) ?_
  refine stepC [some (Bk a b c d e f), some (.int 2), some (.int 1), some (.ref 0), none] [.lst [.int a, .int b, .int (c - 1), .int d, .int e, .int f]] (by kernel_rfl) ?_
  refine stepC [some (Bk a b c d e f), some (.int 2), some (.int 1), some (.ref 0), some (.int 2)] [.lst [.int a, .int b, .int (c - 1), .int d, .int e, .int f]] (by kernel_rfl) ?_
  refine stepC [some (Bk a b c d e f), some (.int 2), some (.int 1), some (.ref 0), some (.int 2)] [.lst [.int a, .int b, .int (c - 1 + 1), .int d, .int e, .int f]] (by kernel_rfl) ?_
  refine stepC [some (Bk a b c d e f), some (.int 2), some (.int 1), some (.ref 0), some (.int 2)] [.lst [.int a, .int b, .int (c - 1 + 1), .int d, .int e, .int f]] ?_ (by kernel_rfl)
  have e3 : dB kTuple (aCons (dVar 3) aNil) [some (Bk a b c d e f), some (.int 2), some (.int 1), some (.ref 0), some (.int 2)] [.lst [.int a, .int b, .int (c - 1 + 1), .int d, .int e, .int f]] = .ok (Bk a b (c - 1 + 1) d e f) [.lst [.int a, .int b, .int (c - 1 + 1), .int d, .int e, .int f]] := rfl
  rw [ev_expr, ev_call, ev_cons, e3, ev_bind_ok, ev_nil, ev_bind_ok, ev_bind_ok]
  have e4 : ([Bk a b (c - 1 + 1) d e f].length == 1) = true := rfl
  rw [if_pos e4, w2]
  rfl
theorem lift_2_0 (h : Hs) (hb : B99 a b c d e f) (h0 : c ≠ 0) (h1 : a < 99) : callD lifted [Bk a b c d e f, .int 2, .int 0] h = .ok (Bk (a + 1) b (c - 1) d e f) h := by
  refine callD_flat rfl rfl rfl ?_
  have w := fun h => look_call a b c d e f hb.bok h
  have hb' : B99 (a + 1) b (c - 1) d e f := by omega
  have w2 := fun h => look_call _ _ _ _ _ _ hb'.bok h
  have w1 : ∀ h, callD look_thing [.int 0] h = .ok .non h := fun h => thing_call 0 (by decide) h
  unfold lifted D_lifted fnD
  refine stepC [some (Bk a b c d e f), some (.int 2), some (.int 0), none, none] [] (by simp [w]) ?_
  refine stepC [some (Bk a b c d e f), some (.int 2), some (.int 0), none, none] [] (by simp [w1]) ?_
  refine stepC [some (Bk a b c d e f), some (.int 2), some (.int 0), none, none] [] (ifF [] ?_ rfl) ?_
  · have e1 : callD is_whole [.int 2, .int 0, .int 5] [] = .ok (.bl true) [] := callD_flat rfl rfl rfl (by kernel_rfl)
    have e2 : kIxU (Bk a b c d e f) (.int 2) [] = some (.int c, []) := rfl
    simp [e1, e2, h0]
  refine stepC [some (Bk a b c d e f), some (.int 2), some (.int 0), some (.ref 0), none] [.lst [.int a, .int b, .int c, .int d, .int e, .int f]] (by kernel_rfl) ?_
  refine stepC [some (Bk a b c d e f), some (.int 2), some (.int 0), some (.ref 0), none] [.lst [.int a, .int b, .int (c - 1), .int d, .int e, .int f]] (by kernel_rfl) ?_
  refine stepC [some (Bk a b c d e f), some (.int 2), some (.int 0), some (.ref 0), some (.int 0)] [.lst [.int a, .int b, .int (c - 1), .int d, .int e, .int f]] (by kernel_rfl) ?_
  refine stepC [some (Bk a b c d e f), some (.int 2), some (.int 0), some (.ref 0), some (.int 0)] [.lst [.int (a + 1), .int b, .int (c - 1), .int d, .int e, .int f]] (by kernel_rfl) ?_
  refine stepC [some (Bk a b c d e f), some (.int 2), some (.int 0), some (.ref 0), some (.int 0)] [.lst [.int (a + 1), .int b, .int (c - 1), .int d, .int e, .int f]] ?_ (by kernel_rfl)
  have e3 : dB kTuple (aCons (dVar 3) aNil) [some (Bk a b c d e f), some (.int 2), some (.int 0), some (.ref 0), some (.int 0)] [.lst [.int (a + 1), .int b, .int (c - 1), .int d, .int e, .int f]] = .ok (Bk (a + 1) b (c - 1) d e f) [.lst [.int (a + 1), .int b, .int (c - 1), .int d, .int e, .int f]] := rfl
  rw [ev_expr, ev_call, ev_cons, e3, ev_bind_ok, ev_nil, ev_bind_ok, ev_bind_ok]
  have e4 : ([Bk (a + 1) b (c - 1) d e f].length == 1) = true := rfl
  rw [if_pos e4, w2]
  rfl
theorem lift_2_2 (h : Hs) (hb : B99 a b c d e f) (h0 : c ≠ 0) (h1 : d < 99) : callD lifted [Bk a b c d e f, .int 2, .int 2] h = .ok (Bk a b (c - 1) (d + 1) e f) h := by
  refine callD_flat rfl rfl rfl ?_
  have w := fun h => look_call a b c d e f hb.bok h
  have hb' : B99 a b (c - 1) (d + 1) e f := by omega
  have w2 := fun h => look_call _ _ _ _ _ _ hb'.bok h
  have w1 : ∀ h, callD look_thing [.int 2] h = .ok .non h := fun h => thing_call 2 (by decide) h
  unfold lifted D_lifted fnD
  refine stepC [some (Bk a b c d e f), some (.int 2), some (.int 2), none, none] [] (by simp [w]) ?_
  refine stepC [some (Bk a b c d e f), some (.int 2), some (.int 2), none, none] [] (by simp [w1]) ?_
  refine stepC [some (Bk a b c d e f), some (.int 2), some (.int 2), none, none] [] (ifF [] ?_ rfl) ?_
  · have e1 : callD is_whole [.int 2, .int 0, .int 5] [] = .ok (.bl true) [] := callD_flat rfl rfl rfl (by kernel_rfl)
    have e2 : kIxU (Bk a b c d e f) (.int 2) [] = some (.int c, []) := rfl
    simp [e1, e2, h0]
  refine stepC [some (Bk a b c d e f), some (.int 2), some (.int 2), some (.ref 0), none] [.lst [.int a, .int b, .int c, .int d, .int e, .int f]] (by kernel_rfl) ?_
  refine stepC [some (Bk a b c d e f), some (.int 2), some (.int 2), some (.ref 0), none] [.lst [.int a, .int b, .int (c - 1), .int d, .int e, .int f]] (by kernel_rfl) ?_
  refine stepC [some (Bk a b c d e f), some (.int 2), some (.int 2), some (.ref 0), some (.int 3)] [.lst [.int a, .int b, .int (c - 1), .int d, .int e, .int f]] (by kernel_rfl) ?_
  refine stepC [some (Bk a b c d e f), some (.int 2), some (.int 2), some (.ref 0), some (.int 3)] [.lst [.int a, .int b, .int (c - 1), .int (d + 1), .int e, .int f]] (by kernel_rfl) ?_
  refine stepC [some (Bk a b c d e f), some (.int 2), some (.int 2), some (.ref 0), some (.int 3)] [.lst [.int a, .int b, .int (c - 1), .int (d + 1), .int e, .int f]] ?_ (by kernel_rfl)
  have e3 : dB kTuple (aCons (dVar 3) aNil) [some (Bk a b c d e f), some (.int 2), some (.int 2), some (.ref 0), some (.int 3)] [.lst [.int a, .int b, .int (c - 1), .int (d + 1), .int e, .int f]] = .ok (Bk a b (c - 1) (d + 1) e f) [.lst [.int a, .int b, .int (c - 1), .int (d + 1), .int e, .int f]] := rfl
  rw [ev_expr, ev_call, ev_cons, e3, ev_bind_ok, ev_nil, ev_bind_ok, ev_bind_ok]
  have e4 : ([Bk a b (c - 1) (d + 1) e f].length == 1) = true := rfl
  rw [if_pos e4, w2]
  rfl
theorem lift_3_1 (h : Hs) (hb : B99 a b c d e f) (h0 : d ≠ 0) (h1 : d - 1 < 99) : callD lifted [Bk a b c d e f, .int 3, .int 1] h = .ok (Bk a b c (d - 1 + 1) e f) h := by
  refine callD_flat rfl rfl rfl ?_
  have w := fun h => look_call a b c d e f hb.bok h
  have hb' : B99 a b c (d - 1 + 1) e f := by omega
  have w2 := fun h => look_call _ _ _ _ _ _ hb'.bok h
  have w1 : ∀ h, callD look_thing [.int 1] h = .ok .non h := fun h => thing_call 1 (by decide) h
  unfold lifted D_lifted fnD
  refine stepC [some (Bk a b c d e f), some (.int 3), some (.int 1), none, none] [] (by simp [w]) ?_
  refine stepC [some (Bk a b c d e f), some (.int 3), some (.int 1), none, none] [] (by simp [w1]) ?_
  refine stepC [some (Bk a b c d e f), some (.int 3), some (.int 1), none, none] [] (ifF [] ?_ rfl) ?_
  · have e1 : callD is_whole [.int 3, .int 0, .int 5] [] = .ok (.bl true) [] := callD_flat rfl rfl rfl (by kernel_rfl)
    have e2 : kIxU (Bk a b c d e f) (.int 3) [] = some (.int d, []) := rfl
    simp [e1, e2, h0]
  refine stepC [some (Bk a b c d e f), some (.int 3), some (.int 1), some (.ref 0), none] [.lst [.int a, .int b, .int c, .int d, .int e, .int f]] (by kernel_rfl) ?_
  refine stepC [some (Bk a b c d e f), some (.int 3), some (.int 1), some (.ref 0), none] [.lst [.int a, .int b, .int c, .int (d - 1), .int e, .int f]] (by kernel_rfl) ?_
  refine stepC [some (Bk a b c d e f), some (.int 3), some (.int 1), some (.ref 0), some (.int 3)] [.lst [.int a, .int b, .int c, .int (d - 1), .int e, .int f]] (by kernel_rfl) ?_
  refine stepC [some (Bk a b c d e f), some (.int 3), some (.int 1), some (.ref 0), some (.int 3)] [.lst [.int a, .int b, .int c, .int (d - 1 + 1), .int e, .int f]] (by kernel_rfl) ?_
  refine stepC [some (Bk a b c d e f), some (.int 3), some (.int 1), some (.ref 0), some (.int 3)] [.lst [.int a, .int b, .int c, .int (d - 1 + 1), .int e, .int f]] ?_ (by kernel_rfl)
  have e3 : dB kTuple (aCons (dVar 3) aNil) [some (Bk a b c d e f), some (.int 3), some (.int 1), some (.ref 0), some (.int 3)] [.lst [.int a, .int b, .int c, .int (d - 1 + 1), .int e, .int f]] = .ok (Bk a b c (d - 1 + 1) e f) [.lst [.int a, .int b, .int c, .int (d - 1 + 1), .int e, .int f]] := rfl
  rw [ev_expr, ev_call, ev_cons, e3, ev_bind_ok, ev_nil, ev_bind_ok, ev_bind_ok]
  have e4 : ([Bk a b c (d - 1 + 1) e f].length == 1) = true := rfl
  rw [if_pos e4, w2]
  rfl
theorem lift_3_2 (h : Hs) (hb : B99 a b c d e f) (h0 : d ≠ 0) (h1 : f < 99) : callD lifted [Bk a b c d e f, .int 3, .int 2] h = .ok (Bk a b c (d - 1) e (f + 1)) h := by
  refine callD_flat rfl rfl rfl ?_
  have w := fun h => look_call a b c d e f hb.bok h
  have hb' : B99 a b c (d - 1) e (f + 1) := by omega
  have w2 := fun h => look_call _ _ _ _ _ _ hb'.bok h
  have w1 : ∀ h, callD look_thing [.int 2] h = .ok .non h := fun h => thing_call 2 (by decide) h
  unfold lifted D_lifted fnD
  refine stepC [some (Bk a b c d e f), some (.int 3), some (.int 2), none, none] [] (by simp [w]) ?_
  refine stepC [some (Bk a b c d e f), some (.int 3), some (.int 2), none, none] [] (by simp [w1]) ?_
  refine stepC [some (Bk a b c d e f), some (.int 3), some (.int 2), none, none] [] (ifF [] ?_ rfl) ?_
  · have e1 : callD is_whole [.int 3, .int 0, .int 5] [] = .ok (.bl true) [] := callD_flat rfl rfl rfl (by kernel_rfl)
    have e2 : kIxU (Bk a b c d e f) (.int 3) [] = some (.int d, []) := rfl
    simp [e1, e2, h0]
  refine stepC [some (Bk a b c d e f), some (.int 3), some (.int 2), some (.ref 0), none] [.lst [.int a, .int b, .int c, .int d, .int e, .int f]] (by kernel_rfl) ?_
  refine stepC [some (Bk a b c d e f), some (.int 3), some (.int 2), some (.ref 0), none] [.lst [.int a, .int b, .int c, .int (d - 1), .int e, .int f]] (by kernel_rfl) ?_
  refine stepC [some (Bk a b c d e f), some (.int 3), some (.int 2), some (.ref 0), some (.int 5)] [.lst [.int a, .int b, .int c, .int (d - 1), .int e, .int f]] (by kernel_rfl) ?_
  refine stepC [some (Bk a b c d e f), some (.int 3), some (.int 2), some (.ref 0), some (.int 5)] [.lst [.int a, .int b, .int c, .int (d - 1), .int e, .int (f + 1)]] (by kernel_rfl) ?_
  refine stepC [some (Bk a b c d e f), some (.int 3), some (.int 2), some (.ref 0), some (.int 5)] [.lst [.int a, .int b, .int c, .int (d - 1), .int e, .int (f + 1)]] ?_ (by kernel_rfl)
  have e3 : dB kTuple (aCons (dVar 3) aNil) [some (Bk a b c d e f), some (.int 3), some (.int 2), some (.ref 0), some (.int 5)] [.lst [.int a, .int b, .int c, .int (d - 1), .int e, .int (f + 1)]] = .ok (Bk a b c (d - 1) e (f + 1)) [.lst [.int a, .int b, .int c, .int (d - 1), .int e, .int (f + 1)]] := rfl
  rw [ev_expr, ev_call, ev_cons, e3, ev_bind_ok, ev_nil, ev_bind_ok, ev_bind_ok]
  have e4 : ([Bk a b c (d - 1) e (f + 1)].length == 1) = true := rfl
  rw [if_pos e4, w2]
  rfl
theorem lift_3_0 (h : Hs) (hb : B99 a b c d e f) (h0 : d ≠ 0) (h1 : c < 99) : callD lifted [Bk a b c d e f, .int 3, .int 0] h = .ok (Bk a b (c + 1) (d - 1) e f) h := by
  refine callD_flat rfl rfl rfl ?_
  have w := fun h => look_call a b c d e f hb.bok h
  have hb' : B99 a b (c + 1) (d - 1) e f := by omega
  have w2 := fun h => look_call _ _ _ _ _ _ hb'.bok h
  have w1 : ∀ h, callD look_thing [.int 0] h = .ok .non h := fun h => thing_call 0 (by decide) h
  unfold lifted D_lifted fnD
  refine stepC [some (Bk a b c d e f), some (.int 3), some (.int 0), none, none] [] (by simp [w]) ?_
  refine stepC [some (Bk a b c d e f), some (.int 3), some (.int 0), none, none] [] (by simp [w1]) ?_
  refine stepC [some (Bk a b c d e f), some (.int 3), some (.int 0), none, none] [] (ifF [] ?_ rfl) ?_
  · have e1 : callD is_whole [.int 3, .int 0, .int 5] [] = .ok (.bl true) [] := callD_flat rfl rfl rfl (by kernel_rfl)
    have e2 : kIxU (Bk a b c d e f) (.int 3) [] = some (.int d, []) := rfl
    simp [e1, e2, h0]
  refine stepC [some (Bk a b c d e f), some (.int 3), some (.int 0), some (.ref 0), none] [.lst [.int a, .int b, .int c, .int d, .int e, .int f]] (by kernel_rfl) ?_
  refine stepC [some (Bk a b c d e f), some (.int 3), some (.int 0), some (.ref 0), none] [.lst [.int a, .int b, .int c, .int (d - 1), .int e, .int f]] (by kernel_rfl) ?_
  refine stepC [some (Bk a b c d e f), some (.int 3), some (.int 0), some (.ref 0), some (.int 2)] [.lst [.int a, .int b, .int c, .int (d - 1), .int e, .int f]] (by kernel_rfl) ?_
  refine stepC [some (Bk a b c d e f), some (.int 3), some (.int 0), some (.ref 0), some (.int 2)] [.lst [.int a, .int b, .int (c + 1), .int (d - 1), .int e, .int f]] (by kernel_rfl) ?_
  refine stepC [some (Bk a b c d e f), some (.int 3), some (.int 0), some (.ref 0), some (.int 2)] [.lst [.int a, .int b, .int (c + 1), .int (d - 1), .int e, .int f]] ?_ (by kernel_rfl)
  have e3 : dB kTuple (aCons (dVar 3) aNil) [some (Bk a b c d e f), some (.int 3), some (.int 0), some (.ref 0), some (.int 2)] [.lst [.int a, .int b, .int (c + 1), .int (d - 1), .int e, .int f]] = .ok (Bk a b (c + 1) (d - 1) e f) [.lst [.int a, .int b, .int (c + 1), .int (d - 1), .int e, .int f]] := rfl
  rw [ev_expr, ev_call, ev_cons, e3, ev_bind_ok, ev_nil, ev_bind_ok, ev_bind_ok]
  have e4 : ([Bk a b (c + 1) (d - 1) e f].length == 1) = true := rfl
  rw [if_pos e4, w2]
  rfl
theorem lift_4_2 (h : Hs) (hb : B99 a b c d e f) (h0 : e ≠ 0) (h1 : e - 1 < 99) : callD lifted [Bk a b c d e f, .int 4, .int 2] h = .ok (Bk a b c d (e - 1 + 1) f) h := by
  refine callD_flat rfl rfl rfl ?_
  have w := fun h => look_call a b c d e f hb.bok h
  have hb' : B99 a b c d (e - 1 + 1) f := by omega
  have w2 := fun h => look_call _ _ _ _ _ _ hb'.bok h
  have w1 : ∀ h, callD look_thing [.int 2] h = .ok .non h := fun h => thing_call 2 (by decide) h
  unfold lifted D_lifted fnD
  refine stepC [some (Bk a b c d e f), some (.int 4), some (.int 2), none, none] [] (by simp [w]) ?_
  refine stepC [some (Bk a b c d e f), some (.int 4), some (.int 2), none, none] [] (by simp [w1]) ?_
  refine stepC [some (Bk a b c d e f), some (.int 4), some (.int 2), none, none] [] (ifF [] ?_ rfl) ?_
  · have e1 : callD is_whole [.int 4, .int 0, .int 5] [] = .ok (.bl true) [] := callD_flat rfl rfl rfl (by kernel_rfl)
    have e2 : kIxU (Bk a b c d e f) (.int 4) [] = some (.int e, []) := rfl
    simp [e1, e2, h0]
  refine stepC [some (Bk a b c d e f), some (.int 4), some (.int 2), some (.ref 0), none] [.lst [.int a, .int b, .int c, .int d, .int e, .int f]] (by kernel_rfl) ?_
  refine stepC [some (Bk a b c d e f), some (.int 4), some (.int 2), some (.ref 0), none] [.lst [.int a, .int b, .int c, .int d, .int (e - 1), .int f]] (by kernel_rfl) ?_
  refine stepC [some (Bk a b c d e f), some (.int 4), some (.int 2), some (.ref 0), some (.int 4)] [.lst [.int a, .int b, .int c, .int d, .int (e - 1), .int f]] (by kernel_rfl) ?_
  refine stepC [some (Bk a b c d e f), some (.int 4), some (.int 2), some (.ref 0), some (.int 4)] [.lst [.int a, .int b, .int c, .int d, .int (e - 1 + 1), .int f]] (by kernel_rfl) ?_
  refine stepC [some (Bk a b c d e f), some (.int 4), some (.int 2), some (.ref 0), some (.int 4)] [.lst [.int a, .int b, .int c, .int d, .int (e - 1 + 1), .int f]] ?_ (by kernel_rfl)
  have e3 : dB kTuple (aCons (dVar 3) aNil) [some (Bk a b c d e f), some (.int 4), some (.int 2), some (.ref 0), some (.int 4)] [.lst [.int a, .int b, .int c, .int d, .int (e - 1 + 1), .int f]] = .ok (Bk a b c d (e - 1 + 1) f) [.lst [.int a, .int b, .int c, .int d, .int (e - 1 + 1), .int f]] := rfl
  rw [ev_expr, ev_call, ev_cons, e3, ev_bind_ok, ev_nil, ev_bind_ok, ev_bind_ok]
  have e4 : ([Bk a b c d (e - 1 + 1) f].length == 1) = true := rfl
  rw [if_pos e4, w2]
  rfl
theorem lift_4_0 (h : Hs) (hb : B99 a b c d e f) (h0 : e ≠ 0) (h1 : b < 99) : callD lifted [Bk a b c d e f, .int 4, .int 0] h = .ok (Bk a (b + 1) c d (e - 1) f) h := by
  refine callD_flat rfl rfl rfl ?_
  have w := fun h => look_call a b c d e f hb.bok h
  have hb' : B99 a (b + 1) c d (e - 1) f := by omega
  have w2 := fun h => look_call _ _ _ _ _ _ hb'.bok h
  have w1 : ∀ h, callD look_thing [.int 0] h = .ok .non h := fun h => thing_call 0 (by decide) h
  unfold lifted D_lifted fnD
  refine stepC [some (Bk a b c d e f), some (.int 4), some (.int 0), none, none] [] (by simp [w]) ?_
  refine stepC [some (Bk a b c d e f), some (.int 4), some (.int 0), none, none] [] (by simp [w1]) ?_
  refine stepC [some (Bk a b c d e f), some (.int 4), some (.int 0), none, none] [] (ifF [] ?_ rfl) ?_
  · have e1 : callD is_whole [.int 4, .int 0, .int 5] [] = .ok (.bl true) [] := callD_flat rfl rfl rfl (by kernel_rfl)
    have e2 : kIxU (Bk a b c d e f) (.int 4) [] = some (.int e, []) := rfl
    simp [e1, e2, h0]
  refine stepC [some (Bk a b c d e f), some (.int 4), some (.int 0), some (.ref 0), none] [.lst [.int a, .int b, .int c, .int d, .int e, .int f]] (by kernel_rfl) ?_
  refine stepC [some (Bk a b c d e f), some (.int 4), some (.int 0), some (.ref 0), none] [.lst [.int a, .int b, .int c, .int d, .int (e - 1), .int f]] (by kernel_rfl) ?_
  refine stepC [some (Bk a b c d e f), some (.int 4), some (.int 0), some (.ref 0), some (.int 1)] [.lst [.int a, .int b, .int c, .int d, .int (e - 1), .int f]] (by kernel_rfl) ?_
  refine stepC [some (Bk a b c d e f), some (.int 4), some (.int 0), some (.ref 0), some (.int 1)] [.lst [.int a, .int (b + 1), .int c, .int d, .int (e - 1), .int f]] (by kernel_rfl) ?_
  refine stepC [some (Bk a b c d e f), some (.int 4), some (.int 0), some (.ref 0), some (.int 1)] [.lst [.int a, .int (b + 1), .int c, .int d, .int (e - 1), .int f]] ?_ (by kernel_rfl)
  have e3 : dB kTuple (aCons (dVar 3) aNil) [some (Bk a b c d e f), some (.int 4), some (.int 0), some (.ref 0), some (.int 1)] [.lst [.int a, .int (b + 1), .int c, .int d, .int (e - 1), .int f]] = .ok (Bk a (b + 1) c d (e - 1) f) [.lst [.int a, .int (b + 1), .int c, .int d, .int (e - 1), .int f]] := rfl
  rw [ev_expr, ev_call, ev_cons, e3, ev_bind_ok, ev_nil, ev_bind_ok, ev_bind_ok]
  have e4 : ([Bk a (b + 1) c d (e - 1) f].length == 1) = true := rfl
  rw [if_pos e4, w2]
  rfl
theorem lift_4_1 (h : Hs) (hb : B99 a b c d e f) (h0 : e ≠ 0) (h1 : f < 99) : callD lifted [Bk a b c d e f, .int 4, .int 1] h = .ok (Bk a b c d (e - 1) (f + 1)) h := by
  refine callD_flat rfl rfl rfl ?_
  have w := fun h => look_call a b c d e f hb.bok h
  have hb' : B99 a b c d (e - 1) (f + 1) := by omega
  have w2 := fun h => look_call _ _ _ _ _ _ hb'.bok h
  have w1 : ∀ h, callD look_thing [.int 1] h = .ok .non h := fun h => thing_call 1 (by decide) h
  unfold lifted D_lifted fnD
  refine stepC [some (Bk a b c d e f), some (.int 4), some (.int 1), none, none] [] (by simp [w]) ?_
  refine stepC [some (Bk a b c d e f), some (.int 4), some (.int 1), none, none] [] (by simp [w1]) ?_
  refine stepC [some (Bk a b c d e f), some (.int 4), some (.int 1), none, none] [] (ifF [] ?_ rfl) ?_
  · have e1 : callD is_whole [.int 4, .int 0, .int 5] [] = .ok (.bl true) [] := callD_flat rfl rfl rfl (by kernel_rfl)
    have e2 : kIxU (Bk a b c d e f) (.int 4) [] = some (.int e, []) := rfl
    simp [e1, e2, h0]
  refine stepC [some (Bk a b c d e f), some (.int 4), some (.int 1), some (.ref 0), none] [.lst [.int a, .int b, .int c, .int d, .int e, .int f]] (by kernel_rfl) ?_
  refine stepC [some (Bk a b c d e f), some (.int 4), some (.int 1), some (.ref 0), none] [.lst [.int a, .int b, .int c, .int d, .int (e - 1), .int f]] (by kernel_rfl) ?_
  refine stepC [some (Bk a b c d e f), some (.int 4), some (.int 1), some (.ref 0), some (.int 5)] [.lst [.int a, .int b, .int c, .int d, .int (e - 1), .int f]] (by kernel_rfl) ?_
  refine stepC [some (Bk a b c d e f), some (.int 4), some (.int 1), some (.ref 0), some (.int 5)] [.lst [.int a, .int b, .int c, .int d, .int (e - 1), .int (f + 1)]] (by kernel_rfl) ?_
  refine stepC [some (Bk a b c d e f), some (.int 4), some (.int 1), some (.ref 0), some (.int 5)] [.lst [.int a, .int b, .int c, .int d, .int (e - 1), .int (f + 1)]] ?_ (by kernel_rfl)
  have e3 : dB kTuple (aCons (dVar 3) aNil) [some (Bk a b c d e f), some (.int 4), some (.int 1), some (.ref 0), some (.int 5)] [.lst [.int a, .int b, .int c, .int d, .int (e - 1), .int (f + 1)]] = .ok (Bk a b c d (e - 1) (f + 1)) [.lst [.int a, .int b, .int c, .int d, .int (e - 1), .int (f + 1)]] := rfl
  rw [ev_expr, ev_call, ev_cons, e3, ev_bind_ok, ev_nil, ev_bind_ok, ev_bind_ok]
  have e4 : ([Bk a b c d (e - 1) (f + 1)].length == 1) = true := rfl
  rw [if_pos e4, w2]
  rfl
theorem lift_5_2 (h : Hs) (hb : B99 a b c d e f) (h0 : f ≠ 0) (h1 : f - 1 < 99) : callD lifted [Bk a b c d e f, .int 5, .int 2] h = .ok (Bk a b c d e (f - 1 + 1)) h := by
  refine callD_flat rfl rfl rfl ?_
  have w := fun h => look_call a b c d e f hb.bok h
  have hb' : B99 a b c d e (f - 1 + 1) := by omega
  have w2 := fun h => look_call _ _ _ _ _ _ hb'.bok h
  have w1 : ∀ h, callD look_thing [.int 2] h = .ok .non h := fun h => thing_call 2 (by decide) h
  unfold lifted D_lifted fnD
  refine stepC [some (Bk a b c d e f), some (.int 5), some (.int 2), none, none] [] (by simp [w]) ?_
  refine stepC [some (Bk a b c d e f), some (.int 5), some (.int 2), none, none] [] (by simp [w1]) ?_
  refine stepC [some (Bk a b c d e f), some (.int 5), some (.int 2), none, none] [] (ifF [] ?_ rfl) ?_
  · have e1 : callD is_whole [.int 5, .int 0, .int 5] [] = .ok (.bl true) [] := callD_flat rfl rfl rfl (by kernel_rfl)
    have e2 : kIxU (Bk a b c d e f) (.int 5) [] = some (.int f, []) := rfl
    simp [e1, e2, h0]
  refine stepC [some (Bk a b c d e f), some (.int 5), some (.int 2), some (.ref 0), none] [.lst [.int a, .int b, .int c, .int d, .int e, .int f]] (by kernel_rfl) ?_
  refine stepC [some (Bk a b c d e f), some (.int 5), some (.int 2), some (.ref 0), none] [.lst [.int a, .int b, .int c, .int d, .int e, .int (f - 1)]] (by kernel_rfl) ?_
  refine stepC [some (Bk a b c d e f), some (.int 5), some (.int 2), some (.ref 0), some (.int 5)] [.lst [.int a, .int b, .int c, .int d, .int e, .int (f - 1)]] (by kernel_rfl) ?_
  refine stepC [some (Bk a b c d e f), some (.int 5), some (.int 2), some (.ref 0), some (.int 5)] [.lst [.int a, .int b, .int c, .int d, .int e, .int (f - 1 + 1)]] (by kernel_rfl) ?_
  refine stepC [some (Bk a b c d e f), some (.int 5), some (.int 2), some (.ref 0), some (.int 5)] [.lst [.int a, .int b, .int c, .int d, .int e, .int (f - 1 + 1)]] ?_ (by kernel_rfl)
  have e3 : dB kTuple (aCons (dVar 3) aNil) [some (Bk a b c d e f), some (.int 5), some (.int 2), some (.ref 0), some (.int 5)] [.lst [.int a, .int b, .int c, .int d, .int e, .int (f - 1 + 1)]] = .ok (Bk a b c d e (f - 1 + 1)) [.lst [.int a, .int b, .int c, .int d, .int e, .int (f - 1 + 1)]] := rfl
  rw [ev_expr, ev_call, ev_cons, e3, ev_bind_ok, ev_nil, ev_bind_ok, ev_bind_ok]
  have e4 : ([Bk a b c d e (f - 1 + 1)].length == 1) = true := rfl
  rw [if_pos e4, w2]
  rfl
theorem lift_5_1 (h : Hs) (hb : B99 a b c d e f) (h0 : f ≠ 0) (h1 : d < 99) : callD lifted [Bk a b c d e f, .int 5, .int 1] h = .ok (Bk a b c (d + 1) e (f - 1)) h := by
  refine callD_flat rfl rfl rfl ?_
  have w := fun h => look_call a b c d e f hb.bok h
  have hb' : B99 a b c (d + 1) e (f - 1) := by omega
  have w2 := fun h => look_call _ _ _ _ _ _ hb'.bok h
  have w1 : ∀ h, callD look_thing [.int 1] h = .ok .non h := fun h => thing_call 1 (by decide) h
  unfold lifted D_lifted fnD
  refine stepC [some (Bk a b c d e f), some (.int 5), some (.int 1), none, none] [] (by simp [w]) ?_
  refine stepC [some (Bk a b c d e f), some (.int 5), some (.int 1), none, none] [] (by simp [w1]) ?_
  refine stepC [some (Bk a b c d e f), some (.int 5), some (.int 1), none, none] [] (ifF [] ?_ rfl) ?_
  · have e1 : callD is_whole [.int 5, .int 0, .int 5] [] = .ok (.bl true) [] := callD_flat rfl rfl rfl (by kernel_rfl)
    have e2 : kIxU (Bk a b c d e f) (.int 5) [] = some (.int f, []) := rfl
    simp [e1, e2, h0]
  refine stepC [some (Bk a b c d e f), some (.int 5), some (.int 1), some (.ref 0), none] [.lst [.int a, .int b, .int c, .int d, .int e, .int f]] (by kernel_rfl) ?_
  refine stepC [some (Bk a b c d e f), some (.int 5), some (.int 1), some (.ref 0), none] [.lst [.int a, .int b, .int c, .int d, .int e, .int (f - 1)]] (by kernel_rfl) ?_
  refine stepC [some (Bk a b c d e f), some (.int 5), some (.int 1), some (.ref 0), some (.int 3)] [.lst [.int a, .int b, .int c, .int d, .int e, .int (f - 1)]] (by kernel_rfl) ?_
  refine stepC [some (Bk a b c d e f), some (.int 5), some (.int 1), some (.ref 0), some (.int 3)] [.lst [.int a, .int b, .int c, .int (d + 1), .int e, .int (f - 1)]] (by kernel_rfl) ?_
  refine stepC [some (Bk a b c d e f), some (.int 5), some (.int 1), some (.ref 0), some (.int 3)] [.lst [.int a, .int b, .int c, .int (d + 1), .int e, .int (f - 1)]] ?_ (by kernel_rfl)
  have e3 : dB kTuple (aCons (dVar 3) aNil) [some (Bk a b c d e f), some (.int 5), some (.int 1), some (.ref 0), some (.int 3)] [.lst [.int a, .int b, .int c, .int (d + 1), .int e, .int (f - 1)]] = .ok (Bk a b c (d + 1) e (f - 1)) [.lst [.int a, .int b, .int c, .int (d + 1), .int e, .int (f - 1)]] := rfl
  rw [ev_expr, ev_call, ev_cons, e3, ev_bind_ok, ev_nil, ev_bind_ok, ev_bind_ok]
  have e4 : ([Bk a b c (d + 1) e (f - 1)].length == 1) = true := rfl
  rw [if_pos e4, w2]
  rfl
theorem lift_5_0 (h : Hs) (hb : B99 a b c d e f) (h0 : f ≠ 0) (h1 : e < 99) : callD lifted [Bk a b c d e f, .int 5, .int 0] h = .ok (Bk a b c d (e + 1) (f - 1)) h := by
  refine callD_flat rfl rfl rfl ?_
  have w := fun h => look_call a b c d e f hb.bok h
  have hb' : B99 a b c d (e + 1) (f - 1) := by omega
  have w2 := fun h => look_call _ _ _ _ _ _ hb'.bok h
  have w1 : ∀ h, callD look_thing [.int 0] h = .ok .non h := fun h => thing_call 0 (by decide) h
  unfold lifted D_lifted fnD
  refine stepC [some (Bk a b c d e f), some (.int 5), some (.int 0), none, none] [] (by simp [w]) ?_
  refine stepC [some (Bk a b c d e f), some (.int 5), some (.int 0), none, none] [] (by simp [w1]) ?_
  refine stepC [some (Bk a b c d e f), some (.int 5), some (.int 0), none, none] [] (ifF [] ?_ rfl) ?_
  · have e1 : callD is_whole [.int 5, .int 0, .int 5] [] = .ok (.bl true) [] := callD_flat rfl rfl rfl (by kernel_rfl)
    have e2 : kIxU (Bk a b c d e f) (.int 5) [] = some (.int f, []) := rfl
    simp [e1, e2, h0]
  refine stepC [some (Bk a b c d e f), some (.int 5), some (.int 0), some (.ref 0), none] [.lst [.int a, .int b, .int c, .int d, .int e, .int f]] (by kernel_rfl) ?_
  refine stepC [some (Bk a b c d e f), some (.int 5), some (.int 0), some (.ref 0), none] [.lst [.int a, .int b, .int c, .int d, .int e, .int (f - 1)]] (by kernel_rfl) ?_
  refine stepC [some (Bk a b c d e f), some (.int 5), some (.int 0), some (.ref 0), some (.int 4)] [.lst [.int a, .int b, .int c, .int d, .int e, .int (f - 1)]] (by kernel_rfl) ?_
  refine stepC [some (Bk a b c d e f), some (.int 5), some (.int 0), some (.ref 0), some (.int 4)] [.lst [.int a, .int b, .int c, .int d, .int (e + 1), .int (f - 1)]] (by kernel_rfl) ?_
  refine stepC [some (Bk a b c d e f), some (.int 5), some (.int 0), some (.ref 0), some (.int 4)] [.lst [.int a, .int b, .int c, .int d, .int (e + 1), .int (f - 1)]] ?_ (by kernel_rfl)
  have e3 : dB kTuple (aCons (dVar 3) aNil) [some (Bk a b c d e f), some (.int 5), some (.int 0), some (.ref 0), some (.int 4)] [.lst [.int a, .int b, .int c, .int d, .int (e + 1), .int (f - 1)]] = .ok (Bk a b c d (e + 1) (f - 1)) [.lst [.int a, .int b, .int c, .int d, .int (e + 1), .int (f - 1)]] := rfl
  rw [ev_expr, ev_call, ev_cons, e3, ev_bind_ok, ev_nil, ev_bind_ok, ev_bind_ok]
  have e4 : ([Bk a b c d (e + 1) (f - 1)].length == 1) = true := rfl
  rw [if_pos e4, w2]
  rfl
end
end Pg

set_option Elab.async false
set_option linter.all false
set_option maxRecDepth 100000
set_option maxHeartbeats 4000000
set_option autoImplicit false
namespace K03
open PySem PySem.Spec PyProof.Rows L2 Wr Pg
abbrev B49 (a b c d e f : Int) : Prop := (0 ≤ a ∧ a ≤ 49) ∧ (0 ≤ b ∧ b ≤ 49) ∧ (0 ≤ c ∧ c ≤ 49) ∧ (0 ≤ d ∧ d ≤ 49) ∧ (0 ≤ e ∧ e ≤ 49) ∧ (0 ≤ f ∧ f ≤ 49)
abbrev nn : Option Va := none
/-- a drawn book, none of it above 49 -/
theorem cut (x : Int) (h : 0 ≤ x ∧ x ≤ 50) : ∃ y : Int, (0 ≤ y ∧ y ≤ 49) ∧ (if x < 49 then x else 49) = y := ⟨_, by split <;> omega, rfl⟩
theorem t39 (ns : List Int) : ∃ a b c d e f, B49 a b c d e f ∧ P_law_39 (_law_book ns) [some .scr, nn, nn, nn, nn, nn, nn, nn, nn, nn, nn, nn, nn, nn, nn] [] = .nx [some .scr, some (Bk a b c d e f), nn, nn, nn, nn, nn, nn, nn, nn, nn, nn, nn, nn, nn] [.lst [.int a, .int b, .int c, .int d, .int e, .int f]] := by
  obtain ⟨a, b, c, d, e, f, hb, hB⟩ := lbook_ok ns 10 (by omega)
  simp only [List.mem_cons, List.not_mem_nil, or_false, forall_eq_or_imp, forall_eq] at hb
  obtain ⟨h0, h1, h2, h3, h4, h5⟩ := hb
  obtain ⟨a', ha, ea⟩ := cut a h0
  obtain ⟨b', hb, eb⟩ := cut b h1
  obtain ⟨c', hc, ec⟩ := cut c h2
  obtain ⟨d', hd, ed⟩ := cut d h3
  obtain ⟨e', he, ee⟩ := cut e h4
  obtain ⟨f', hf, ef⟩ := cut f h5
  refine ⟨a', b', c', d', e', f', ⟨ha, hb, hc, hd, he, hf⟩, ?_⟩
  simp (disch := omega) [P_law_39, hB, ea, eb, ec, ed, ee, ef]
theorem t37 (ns : List Int) (B : Va) (o : Ob) : ∃ a b c d e f, B49 a b c d e f ∧ P_law_37 (_law_book ns) [some .scr, some B, nn, nn, nn, nn, nn, nn, nn, nn, nn, nn, nn, nn, nn] [o] = .nx [some .scr, some B, nn, some (Bk a b c d e f), nn, nn, nn, nn, nn, nn, nn, nn, nn, nn, nn] [o, .lst [.int a, .int b, .int c, .int d, .int e, .int f]] := by
  obtain ⟨a, b, c, d, e, f, hb, hB⟩ := lbook_ok ns 30 (by omega)
  simp only [List.mem_cons, List.not_mem_nil, or_false, forall_eq_or_imp, forall_eq] at hb
  obtain ⟨h0, h1, h2, h3, h4, h5⟩ := hb
  obtain ⟨a', ha, ea⟩ := cut a h0
  obtain ⟨b', hb, eb⟩ := cut b h1
  obtain ⟨c', hc, ec⟩ := cut c h2
  obtain ⟨d', hd, ed⟩ := cut d h3
  obtain ⟨e', he, ee⟩ := cut e h4
  obtain ⟨f', hf, ef⟩ := cut f h5
  refine ⟨a', b', c', d', e', f', ⟨ha, hb, hc, hd, he, hf⟩, ?_⟩
  simp (disch := omega) [P_law_37, hB, ea, eb, ec, ed, ee, ef]
abbrev W : Ob := .lst [wv 0, wv 1, wv 2, wv 3, wv 4, wv 5]
theorem t35 (ns : List Int) (B C : Va) (o o' : Ob) : ∃ i j : Nat, i < 6 ∧ j < 6 ∧ P_law_35 _law_wishes (_law_pick ns) [some .scr, some B, nn, some C, nn, nn, nn, nn, nn, nn, nn, nn, nn, nn, nn] [o, o'] = .nx [some .scr, some B, nn, some C, some (wv i), some (wv j), nn, nn, nn, nn, nn, nn, nn, nn, nn] [o, o', W, W] := by
  obtain ⟨i, hi, r3⟩ := pickN ns 1 6 (by omega) (by omega)
  obtain ⟨j, hj, t3⟩ := pickN ns 2 6 (by omega) (by omega)
  have hi : i < 6 := by omega
  have hj : j < 6 := by omega
  refine ⟨i, j, hi, hj, ?_⟩
  have k : ∀ (n : Nat) (x : Nat) (h : Hs), n < 6 → h[x]? = some W → kIxU (.ref x) (.int n) h = some (wv n, h) := by
    intro n x h hn hx
    unfold kIxU kIx
    simp only [hx]
    rcases lt6 hn with rfl | rfl | rfl | rfl | rfl | rfl <;> rfl
  simp (disch := omega) [-ev_ixR, P_law_35, wishes_ok, r3, t3, k i 2 [o, o', W] hi rfl, k j 3 [o, o', W, W] hj rfl]
section
variable (a b c d e f a' b' c' d' e' f' : Int) (hb : B49 a b c d e f) (hb' : B49 a' b' c' d' e' f') (o1 o2 o3 o4 o5 : Ob)
theorem t33 (i j : Nat) (hi : i < 6) (hj : j < 6) (C : Va) (hb : B49 a b c d e f) : ∃ x y z, P_law_33 renamed [some .scr, some (Bk a b c d e f), nn, some C, some (wv i), some (wv j), nn, nn, nn, nn, nn, nn, nn, nn, nn] [o1, o2, o3, o4] = .nx [some .scr, some (Bk a b c d e f), nn, some C, some (wv i), some (wv j), nn, nn, nn, nn, nn, nn, nn, nn, nn] [o1, o2, o3, o4, .lst [.int x, .int y, .int z]] := by
  rcases lt6 hi with rfl | rfl | rfl | rfl | rfl | rfl <;> rcases lt6 hj with rfl | rfl | rfl | rfl | rfl | rfl <;> simp (disch := omega) [P_law_33, ren_s0, ren_s1, ren_s2, ren_s3, ren_s4, ren_s5, wv]
abbrev S4 (B C w : Va) (x5 x7 : Option Va) : Sg := [some .scr, some B, nn, some C, some w, x5, nn, x7, nn, nn, nn, nn, nn, nn, nn]
theorem t31 (i : Nat) (hi : i < 6) (C : Va) (hb : B49 a b c d e f) (h : Hs) : P_law_31 renamed turned (S4 (Bk a b c d e f) C (wv i) nn nn) h = .nx (S4 (Bk a b c d e f) C (wv i) nn nn) h := by
  rcases lt6 hi with rfl | rfl | rfl | rfl | rfl | rfl <;> simp (disch := omega) [P_law_31, turned_s, ren_s0, ren_s1, ren_s2, ren_s3, ren_s4, ren_s5, wv]
abbrev Bs (a b c d e f a' b' c' d' e' f' : Int) : Va := Bk (a + a') (b + b') (c + c') (d + d') (e + e') (f + f')
theorem t29 (w : Va) (hb : B49 a b c d e f) (hb' : B49 a' b' c' d' e' f') (h : Hs) : P_law_29 plus (S4 (Bk a b c d e f) (Bk a' b' c' d' e' f') w nn nn) h = .nx (S4 (Bk a b c d e f) (Bk a' b' c' d' e' f') w nn (some (Bs a b c d e f a' b' c' d' e' f'))) h := by
  simp (disch := omega) [P_law_29, plus_s]
theorem t27 (w : Va) (hb : B49 a b c d e f) (hb' : B49 a' b' c' d' e' f') (h : Hs) : P_law_27 plus size (S4 (Bk a b c d e f) (Bk a' b' c' d' e' f') w nn (some (Bs a b c d e f a' b' c' d' e' f'))) h = .nx (S4 (Bk a b c d e f) (Bk a' b' c' d' e' f') w nn (some (Bs a b c d e f a' b' c' d' e' f'))) h := by
  simp (disch := omega) [P_law_27, plus_s, size_s]
theorem t25 (w : Va) (hb : B49 a b c d e f) (hb' : B49 a' b' c' d' e' f') (h : Hs) : P_law_25 turned plus (S4 (Bk a b c d e f) (Bk a' b' c' d' e' f') w nn (some (Bs a b c d e f a' b' c' d' e' f'))) h = .nx (S4 (Bk a b c d e f) (Bk a' b' c' d' e' f') w nn (some (Bs a b c d e f a' b' c' d' e' f'))) h := by
  simp (disch := omega) [P_law_25, plus_s, turned_s]
theorem t23 (i : Nat) (hi : i < 6) (hb : B49 a b c d e f) (hb' : B49 a' b' c' d' e' f') (h : Hs) : P_law_23 renamed plus (S4 (Bk a b c d e f) (Bk a' b' c' d' e' f') (wv i) nn (some (Bs a b c d e f a' b' c' d' e' f'))) h = .nx (S4 (Bk a b c d e f) (Bk a' b' c' d' e' f') (wv i) nn (some (Bs a b c d e f a' b' c' d' e' f'))) h := by
  rcases lt6 hi with rfl | rfl | rfl | rfl | rfl | rfl <;> simp (disch := omega) [P_law_23, plus_s, ren_s0, ren_s1, ren_s2, ren_s3, ren_s4, ren_s5, wv]
abbrev S8 (B C w D : Va) (x8 x9 x10 : Option Va) : Sg := [some .scr, some B, nn, some C, some w, nn, nn, some D, x8, x9, x10, nn, nn, nn, nn]
theorem t7 (i x y : Nat) (hi : i < 6) (hx : x < 3) (hy : y < 3) (hb : B49 a b c d e f) (hb' : B49 a' b' c' d' e' f') (h : Hs) : ∃ x10, P_law_7 renamed turned size ahead (S8 (Bk a b c d e f) (Bk a' b' c' d' e' f') (wv i) (Bs a b c d e f a' b' c' d' e' f') (some (.int x)) (some (.int y)) nn) h = .nx (S8 (Bk a b c d e f) (Bk a' b' c' d' e' f') (wv i) (Bs a b c d e f a' b' c' d' e' f') (some (.int x)) (some (.int y)) x10) h := by
  rcases lt3 hx with rfl | rfl | rfl <;> rcases lt3 hy with rfl | rfl | rfl <;> rcases lt6 hi with rfl | rfl | rfl | rfl | rfl | rfl <;>
    simp (disch := omega) [P_law_7, P_law_6, P_law_5, P_law_4, P_law_3, P_law_2, P_law_1, maskS, turned_s, size_s, ren_s0, ren_s1, ren_s2, ren_s3, ren_s4, ren_s5, wv, ahead_s00, ahead_s01, ahead_s02, ahead_s10, ahead_s11, ahead_s12, ahead_s20, ahead_s21, ahead_s22]
end
end K03

set_option Elab.async false
set_option linter.all false
set_option maxRecDepth 100000
set_option maxHeartbeats 4000000
set_option autoImplicit false
namespace K03
open PySem PySem.Spec PyProof.Rows L2 Wr Pg
section
variable (a b c d e f a' b' c' d' e' f' x y z : Int)
abbrev H5 (a b c d e f a' b' c' d' e' f' x y z : Int) : Hs := [.lst [.int a, .int b, .int c, .int d, .int e, .int f], .lst [.int a', .int b', .int c', .int d', .int e', .int f'], W, W, .lst [.int x, .int y, .int z]]
theorem t8 (i u : Nat) (hi : i < 6) (hu : u < 3) (hb : B49 a b c d e f) (hb' : B49 a' b' c' d' e' f') : P_law_8 renamed turned size ahead (S8 (Bk a b c d e f) (Bk a' b' c' d' e' f') (wv i) (Bs a b c d e f a' b' c' d' e' f') (some (.int u)) nn nn) (H5 a b c d e f a' b' c' d' e' f' x y z) = .nx (S8 (Bk a b c d e f) (Bk a' b' c' d' e' f') (wv i) (Bs a b c d e f a' b' c' d' e' f') (some (.int u)) nn nn) (H5 a b c d e f a' b' c' d' e' f' x y z) := by
  show forC 5 [0, 1, 3, 4, 7, 8] (.rng 0 3) (.nm 9) (P_law_7 renamed turned size ahead) 4 0 _ _ = _
  refine forC_back 3 rfl (fun j hj => ?_) 4 0 _ _ rfl (by decide) ?_
  · obtain ⟨x10, q⟩ := t7 a b c d e f a' b' c' d' e' f' i u j hi hu hj hb hb' (H5 a b c d e f a' b' c' d' e' f' x y z)
    refine ⟨.int j, _, _, _, ?_, rfl, .inl q, ?_⟩
    · rcases lt3 hj with rfl | rfl | rfl <;> rfl
    · rcases lt6 hi with rfl | rfl | rfl | rfl | rfl | rfl <;> rfl
  · rcases lt6 hi with rfl | rfl | rfl | rfl | rfl | rfl <;> rfl
theorem t21 (i : Nat) (hi : i < 6) (hb : B49 a b c d e f) (hb' : B49 a' b' c' d' e' f') : P_law_21 renamed turned size ahead (S8 (Bk a b c d e f) (Bk a' b' c' d' e' f') (wv i) (Bs a b c d e f a' b' c' d' e' f') nn nn nn) (H5 a b c d e f a' b' c' d' e' f' x y z) = .nx (S8 (Bk a b c d e f) (Bk a' b' c' d' e' f') (wv i) (Bs a b c d e f a' b' c' d' e' f') nn nn nn) (H5 a b c d e f a' b' c' d' e' f' x y z) := by
  show forC 5 [0, 1, 3, 4, 7] (.rng 0 3) (.nm 8) (P_law_8 renamed turned size ahead) 4 0 _ _ = _
  refine forC_back 3 rfl (fun j hj => ?_) 4 0 _ _ rfl (by decide) ?_
  · refine ⟨.int j, _, _, _, ?_, rfl, .inl (t8 a b c d e f a' b' c' d' e' f' x y z i j hi hj hb hb'), ?_⟩
    · rcases lt3 hj with rfl | rfl | rfl <;> rfl
    · rcases lt6 hi with rfl | rfl | rfl | rfl | rfl | rfl <;> rfl
  · rcases lt6 hi with rfl | rfl | rfl | rfl | rfl | rfl <;> rfl
abbrev S18 (B : Va) (n t : Int) : Sg := [nn, some B, nn, nn, nn, nn, some (.int t), nn, nn, nn, nn, some (.int n), nn, nn, nn]
theorem t18_0_0 (hb : B49 a b c d e f) (o1 o2 o3 o4 o5 : Ob) : ∃ h', P_law_18 _law_wishes size ahead lifted (S18 (Bk a b c d e f) 0 0) [o1, o2, o3, o4, o5] = .rt (.bl true) h' := by
  by_cases h0 : a = 0
  · simp (disch := omega) [P_law_18, P_law_17, h0]
  · simp (disch := omega) [P_law_18, P_law_17, P_law_16, P_law_15, P_law_14, P_law_13, P_law_12, P_law_11, P_law_10, P_law_9, maskS, lift_0_0, size_s, wishes_ok, kSortA, kSortI, sortI, insI, wv, ahead_s00, ahead_s01, ahead_s02, ahead_s10, ahead_s11, ahead_s12, ahead_s20, ahead_s21, ahead_s22]
theorem t18_0_1 (hb : B49 a b c d e f) (o1 o2 o3 o4 o5 : Ob) : ∃ h', P_law_18 _law_wishes size ahead lifted (S18 (Bk a b c d e f) 0 1) [o1, o2, o3, o4, o5] = .rt (.bl true) h' := by
  by_cases h0 : a = 0
  · simp (disch := omega) [P_law_18, P_law_17, h0]
  · simp (disch := omega) [P_law_18, P_law_17, P_law_16, P_law_15, P_law_14, P_law_13, P_law_12, P_law_11, P_law_10, P_law_9, maskS, lift_0_1, size_s, wishes_ok, kSortA, kSortI, sortI, insI, wv, ahead_s00, ahead_s01, ahead_s02, ahead_s10, ahead_s11, ahead_s12, ahead_s20, ahead_s21, ahead_s22]
theorem t18_0_2 (hb : B49 a b c d e f) (o1 o2 o3 o4 o5 : Ob) : ∃ h', P_law_18 _law_wishes size ahead lifted (S18 (Bk a b c d e f) 0 2) [o1, o2, o3, o4, o5] = .rt (.bl true) h' := by
  by_cases h0 : a = 0
  · simp (disch := omega) [P_law_18, P_law_17, h0]
  · simp (disch := omega) [P_law_18, P_law_17, P_law_16, P_law_15, P_law_14, P_law_13, P_law_12, P_law_11, P_law_10, P_law_9, maskS, lift_0_2, size_s, wishes_ok, kSortA, kSortI, sortI, insI, wv, ahead_s00, ahead_s01, ahead_s02, ahead_s10, ahead_s11, ahead_s12, ahead_s20, ahead_s21, ahead_s22]
theorem t18_1_0 (hb : B49 a b c d e f) (o1 o2 o3 o4 o5 : Ob) : ∃ h', P_law_18 _law_wishes size ahead lifted (S18 (Bk a b c d e f) 1 0) [o1, o2, o3, o4, o5] = .rt (.bl true) h' := by
  by_cases h0 : b = 0
  · simp (disch := omega) [P_law_18, P_law_17, h0]
  · simp (disch := omega) [P_law_18, P_law_17, P_law_16, P_law_15, P_law_14, P_law_13, P_law_12, P_law_11, P_law_10, P_law_9, maskS, lift_1_0, size_s, wishes_ok, kSortA, kSortI, sortI, insI, wv, ahead_s00, ahead_s01, ahead_s02, ahead_s10, ahead_s11, ahead_s12, ahead_s20, ahead_s21, ahead_s22]
theorem t18_1_1 (hb : B49 a b c d e f) (o1 o2 o3 o4 o5 : Ob) : ∃ h', P_law_18 _law_wishes size ahead lifted (S18 (Bk a b c d e f) 1 1) [o1, o2, o3, o4, o5] = .rt (.bl true) h' := by
  by_cases h0 : b = 0
  · simp (disch := omega) [P_law_18, P_law_17, h0]
  · simp (disch := omega) [P_law_18, P_law_17, P_law_16, P_law_15, P_law_14, P_law_13, P_law_12, P_law_11, P_law_10, P_law_9, maskS, lift_1_1, size_s, wishes_ok, kSortA, kSortI, sortI, insI, wv, ahead_s00, ahead_s01, ahead_s02, ahead_s10, ahead_s11, ahead_s12, ahead_s20, ahead_s21, ahead_s22]
theorem t18_1_2 (hb : B49 a b c d e f) (o1 o2 o3 o4 o5 : Ob) : ∃ h', P_law_18 _law_wishes size ahead lifted (S18 (Bk a b c d e f) 1 2) [o1, o2, o3, o4, o5] = .rt (.bl true) h' := by
  by_cases h0 : b = 0
  · simp (disch := omega) [P_law_18, P_law_17, h0]
  · simp (disch := omega) [P_law_18, P_law_17, P_law_16, P_law_15, P_law_14, P_law_13, P_law_12, P_law_11, P_law_10, P_law_9, maskS, lift_1_2, size_s, wishes_ok, kSortA, kSortI, sortI, insI, wv, ahead_s00, ahead_s01, ahead_s02, ahead_s10, ahead_s11, ahead_s12, ahead_s20, ahead_s21, ahead_s22]
theorem t18_2_0 (hb : B49 a b c d e f) (o1 o2 o3 o4 o5 : Ob) : ∃ h', P_law_18 _law_wishes size ahead lifted (S18 (Bk a b c d e f) 2 0) [o1, o2, o3, o4, o5] = .rt (.bl true) h' := by
  by_cases h0 : c = 0
  · simp (disch := omega) [P_law_18, P_law_17, h0]
  · simp (disch := omega) [P_law_18, P_law_17, P_law_16, P_law_15, P_law_14, P_law_13, P_law_12, P_law_11, P_law_10, P_law_9, maskS, lift_2_0, size_s, wishes_ok, kSortA, kSortI, sortI, insI, wv, ahead_s00, ahead_s01, ahead_s02, ahead_s10, ahead_s11, ahead_s12, ahead_s20, ahead_s21, ahead_s22]
theorem t18_2_1 (hb : B49 a b c d e f) (o1 o2 o3 o4 o5 : Ob) : ∃ h', P_law_18 _law_wishes size ahead lifted (S18 (Bk a b c d e f) 2 1) [o1, o2, o3, o4, o5] = .rt (.bl true) h' := by
  by_cases h0 : c = 0
  · simp (disch := omega) [P_law_18, P_law_17, h0]
  · simp (disch := omega) [P_law_18, P_law_17, P_law_16, P_law_15, P_law_14, P_law_13, P_law_12, P_law_11, P_law_10, P_law_9, maskS, lift_2_1, size_s, wishes_ok, kSortA, kSortI, sortI, insI, wv, ahead_s00, ahead_s01, ahead_s02, ahead_s10, ahead_s11, ahead_s12, ahead_s20, ahead_s21, ahead_s22]
theorem t18_2_2 (hb : B49 a b c d e f) (o1 o2 o3 o4 o5 : Ob) : ∃ h', P_law_18 _law_wishes size ahead lifted (S18 (Bk a b c d e f) 2 2) [o1, o2, o3, o4, o5] = .rt (.bl true) h' := by
  by_cases h0 : c = 0
  · simp (disch := omega) [P_law_18, P_law_17, h0]
  · simp (disch := omega) [P_law_18, P_law_17, P_law_16, P_law_15, P_law_14, P_law_13, P_law_12, P_law_11, P_law_10, P_law_9, maskS, lift_2_2, size_s, wishes_ok, kSortA, kSortI, sortI, insI, wv, ahead_s00, ahead_s01, ahead_s02, ahead_s10, ahead_s11, ahead_s12, ahead_s20, ahead_s21, ahead_s22]
theorem t18_3_0 (hb : B49 a b c d e f) (o1 o2 o3 o4 o5 : Ob) : ∃ h', P_law_18 _law_wishes size ahead lifted (S18 (Bk a b c d e f) 3 0) [o1, o2, o3, o4, o5] = .rt (.bl true) h' := by
  by_cases h0 : d = 0
  · simp (disch := omega) [P_law_18, P_law_17, h0]
  · simp (disch := omega) [P_law_18, P_law_17, P_law_16, P_law_15, P_law_14, P_law_13, P_law_12, P_law_11, P_law_10, P_law_9, maskS, lift_3_0, size_s, wishes_ok, kSortA, kSortI, sortI, insI, wv, ahead_s00, ahead_s01, ahead_s02, ahead_s10, ahead_s11, ahead_s12, ahead_s20, ahead_s21, ahead_s22]
theorem t18_3_1 (hb : B49 a b c d e f) (o1 o2 o3 o4 o5 : Ob) : ∃ h', P_law_18 _law_wishes size ahead lifted (S18 (Bk a b c d e f) 3 1) [o1, o2, o3, o4, o5] = .rt (.bl true) h' := by
  by_cases h0 : d = 0
  · simp (disch := omega) [P_law_18, P_law_17, h0]
  · simp (disch := omega) [P_law_18, P_law_17, P_law_16, P_law_15, P_law_14, P_law_13, P_law_12, P_law_11, P_law_10, P_law_9, maskS, lift_3_1, size_s, wishes_ok, kSortA, kSortI, sortI, insI, wv, ahead_s00, ahead_s01, ahead_s02, ahead_s10, ahead_s11, ahead_s12, ahead_s20, ahead_s21, ahead_s22]
theorem t18_3_2 (hb : B49 a b c d e f) (o1 o2 o3 o4 o5 : Ob) : ∃ h', P_law_18 _law_wishes size ahead lifted (S18 (Bk a b c d e f) 3 2) [o1, o2, o3, o4, o5] = .rt (.bl true) h' := by
  by_cases h0 : d = 0
  · simp (disch := omega) [P_law_18, P_law_17, h0]
  · simp (disch := omega) [P_law_18, P_law_17, P_law_16, P_law_15, P_law_14, P_law_13, P_law_12, P_law_11, P_law_10, P_law_9, maskS, lift_3_2, size_s, wishes_ok, kSortA, kSortI, sortI, insI, wv, ahead_s00, ahead_s01, ahead_s02, ahead_s10, ahead_s11, ahead_s12, ahead_s20, ahead_s21, ahead_s22]
theorem t18_4_0 (hb : B49 a b c d e f) (o1 o2 o3 o4 o5 : Ob) : ∃ h', P_law_18 _law_wishes size ahead lifted (S18 (Bk a b c d e f) 4 0) [o1, o2, o3, o4, o5] = .rt (.bl true) h' := by
  by_cases h0 : e = 0
  · simp (disch := omega) [P_law_18, P_law_17, h0]
  · simp (disch := omega) [P_law_18, P_law_17, P_law_16, P_law_15, P_law_14, P_law_13, P_law_12, P_law_11, P_law_10, P_law_9, maskS, lift_4_0, size_s, wishes_ok, kSortA, kSortI, sortI, insI, wv, ahead_s00, ahead_s01, ahead_s02, ahead_s10, ahead_s11, ahead_s12, ahead_s20, ahead_s21, ahead_s22]
theorem t18_4_1 (hb : B49 a b c d e f) (o1 o2 o3 o4 o5 : Ob) : ∃ h', P_law_18 _law_wishes size ahead lifted (S18 (Bk a b c d e f) 4 1) [o1, o2, o3, o4, o5] = .rt (.bl true) h' := by
  by_cases h0 : e = 0
  · simp (disch := omega) [P_law_18, P_law_17, h0]
  · simp (disch := omega) [P_law_18, P_law_17, P_law_16, P_law_15, P_law_14, P_law_13, P_law_12, P_law_11, P_law_10, P_law_9, maskS, lift_4_1, size_s, wishes_ok, kSortA, kSortI, sortI, insI, wv, ahead_s00, ahead_s01, ahead_s02, ahead_s10, ahead_s11, ahead_s12, ahead_s20, ahead_s21, ahead_s22]
theorem t18_4_2 (hb : B49 a b c d e f) (o1 o2 o3 o4 o5 : Ob) : ∃ h', P_law_18 _law_wishes size ahead lifted (S18 (Bk a b c d e f) 4 2) [o1, o2, o3, o4, o5] = .rt (.bl true) h' := by
  by_cases h0 : e = 0
  · simp (disch := omega) [P_law_18, P_law_17, h0]
  · simp (disch := omega) [P_law_18, P_law_17, P_law_16, P_law_15, P_law_14, P_law_13, P_law_12, P_law_11, P_law_10, P_law_9, maskS, lift_4_2, size_s, wishes_ok, kSortA, kSortI, sortI, insI, wv, ahead_s00, ahead_s01, ahead_s02, ahead_s10, ahead_s11, ahead_s12, ahead_s20, ahead_s21, ahead_s22]
theorem t18_5_0 (hb : B49 a b c d e f) (o1 o2 o3 o4 o5 : Ob) : ∃ h', P_law_18 _law_wishes size ahead lifted (S18 (Bk a b c d e f) 5 0) [o1, o2, o3, o4, o5] = .rt (.bl true) h' := by
  by_cases h0 : f = 0
  · simp (disch := omega) [P_law_18, P_law_17, h0]
  · simp (disch := omega) [P_law_18, P_law_17, P_law_16, P_law_15, P_law_14, P_law_13, P_law_12, P_law_11, P_law_10, P_law_9, maskS, lift_5_0, size_s, wishes_ok, kSortA, kSortI, sortI, insI, wv, ahead_s00, ahead_s01, ahead_s02, ahead_s10, ahead_s11, ahead_s12, ahead_s20, ahead_s21, ahead_s22]
theorem t18_5_1 (hb : B49 a b c d e f) (o1 o2 o3 o4 o5 : Ob) : ∃ h', P_law_18 _law_wishes size ahead lifted (S18 (Bk a b c d e f) 5 1) [o1, o2, o3, o4, o5] = .rt (.bl true) h' := by
  by_cases h0 : f = 0
  · simp (disch := omega) [P_law_18, P_law_17, h0]
  · simp (disch := omega) [P_law_18, P_law_17, P_law_16, P_law_15, P_law_14, P_law_13, P_law_12, P_law_11, P_law_10, P_law_9, maskS, lift_5_1, size_s, wishes_ok, kSortA, kSortI, sortI, insI, wv, ahead_s00, ahead_s01, ahead_s02, ahead_s10, ahead_s11, ahead_s12, ahead_s20, ahead_s21, ahead_s22]
theorem t18_5_2 (hb : B49 a b c d e f) (o1 o2 o3 o4 o5 : Ob) : ∃ h', P_law_18 _law_wishes size ahead lifted (S18 (Bk a b c d e f) 5 2) [o1, o2, o3, o4, o5] = .rt (.bl true) h' := by
  by_cases h0 : f = 0
  · simp (disch := omega) [P_law_18, P_law_17, h0]
  · simp (disch := omega) [P_law_18, P_law_17, P_law_16, P_law_15, P_law_14, P_law_13, P_law_12, P_law_11, P_law_10, P_law_9, maskS, lift_5_2, size_s, wishes_ok, kSortA, kSortI, sortI, insI, wv, ahead_s00, ahead_s01, ahead_s02, ahead_s10, ahead_s11, ahead_s12, ahead_s20, ahead_s21, ahead_s22]
end
end K03

set_option Elab.async false
set_option linter.all false
set_option maxRecDepth 100000
set_option maxHeartbeats 4000000
set_option autoImplicit false
namespace K03
open PySem PySem.Spec PyProof.Rows L2 Wr Pg
theorem t19 (ns : List Int) (B : Va) : ∃ n t : Nat, n < 6 ∧ t < 3 ∧ ∀ h, P_law_19 (_law_pick ns) [some .scr, some B, nn, nn, nn, nn, nn, nn, nn, nn, nn, nn, nn, nn, nn] h = .nx [some .scr, some B, nn, nn, nn, nn, some (.int t), nn, nn, nn, nn, some (.int n), nn, nn, nn] h := by
  obtain ⟨n, hn, r3⟩ := pickN ns 3 6 (by omega) (by omega)
  obtain ⟨t, ht, t3⟩ := pickN ns 4 3 (by omega) (by omega)
  refine ⟨n, t, by omega, by omega, fun h => ?_⟩
  simp (disch := omega) [P_law_19, r3, t3]
theorem t18 (a b c d e f : Int) (hb : B49 a b c d e f) (o1 o2 o3 o4 o5 : Ob) (n t : Nat) (hn : n < 6) (ht : t < 3) : ∃ h', P_law_18 _law_wishes size ahead lifted (S18 (Bk a b c d e f) n t) [o1, o2, o3, o4, o5] = .rt (.bl true) h' := by
  rcases lt6 hn with rfl | rfl | rfl | rfl | rfl | rfl <;> rcases lt3 ht with rfl | rfl | rfl
  · exact t18_0_0 a b c d e f hb o1 o2 o3 o4 o5
  · exact t18_0_1 a b c d e f hb o1 o2 o3 o4 o5
  · exact t18_0_2 a b c d e f hb o1 o2 o3 o4 o5
  · exact t18_1_0 a b c d e f hb o1 o2 o3 o4 o5
  · exact t18_1_1 a b c d e f hb o1 o2 o3 o4 o5
  · exact t18_1_2 a b c d e f hb o1 o2 o3 o4 o5
  · exact t18_2_0 a b c d e f hb o1 o2 o3 o4 o5
  · exact t18_2_1 a b c d e f hb o1 o2 o3 o4 o5
  · exact t18_2_2 a b c d e f hb o1 o2 o3 o4 o5
  · exact t18_3_0 a b c d e f hb o1 o2 o3 o4 o5
  · exact t18_3_1 a b c d e f hb o1 o2 o3 o4 o5
  · exact t18_3_2 a b c d e f hb o1 o2 o3 o4 o5
  · exact t18_4_0 a b c d e f hb o1 o2 o3 o4 o5
  · exact t18_4_1 a b c d e f hb o1 o2 o3 o4 o5
  · exact t18_4_2 a b c d e f hb o1 o2 o3 o4 o5
  · exact t18_5_0 a b c d e f hb o1 o2 o3 o4 o5
  · exact t18_5_1 a b c d e f hb o1 o2 o3 o4 o5
  · exact t18_5_2 a b c d e f hb o1 o2 o3 o4 o5
theorem law_true (ns : List Int) (hn : ns.length ≤ 63) : ∃ h, law ns [.scr] [] = .ok (.bl true) h := by
  obtain ⟨a, b, c, d, e, f, hb, q39⟩ := t39 ns
  obtain ⟨a', b', c', d', e', f', hb', q37⟩ := t37 ns (Bk a b c d e f) (.lst [.int a, .int b, .int c, .int d, .int e, .int f])
  obtain ⟨i, j, hi, hj, q35⟩ := t35 ns (Bk a b c d e f) (Bk a' b' c' d' e' f') (.lst [.int a, .int b, .int c, .int d, .int e, .int f]) (.lst [.int a', .int b', .int c', .int d', .int e', .int f'])
  obtain ⟨x, y, z, q33⟩ := t33 a b c d e f (.lst [.int a, .int b, .int c, .int d, .int e, .int f]) (.lst [.int a', .int b', .int c', .int d', .int e', .int f']) W W i j hi hj (Bk a' b' c' d' e' f') hb
  have q31 := t31 a b c d e f i hi (Bk a' b' c' d' e' f') hb (H5 a b c d e f a' b' c' d' e' f' x y z)
  have q29 := t29 a b c d e f a' b' c' d' e' f' (wv i) hb hb' (H5 a b c d e f a' b' c' d' e' f' x y z)
  have q27 := t27 a b c d e f a' b' c' d' e' f' (wv i) hb hb' (H5 a b c d e f a' b' c' d' e' f' x y z)
  have q25 := t25 a b c d e f a' b' c' d' e' f' (wv i) hb hb' (H5 a b c d e f a' b' c' d' e' f' x y z)
  have q23 := t23 a b c d e f a' b' c' d' e' f' i hi hb hb' (H5 a b c d e f a' b' c' d' e' f' x y z)
  have q21 := t21 a b c d e f a' b' c' d' e' f' x y z i hi hb hb'
  obtain ⟨n, t, hn6, ht3, q19⟩ := t19 ns (Bk a b c d e f)
  obtain ⟨h', q18⟩ := t18 a b c d e f hb (.lst [.int a, .int b, .int c, .int d, .int e, .int f]) (.lst [.int a', .int b', .int c', .int d', .int e', .int f']) W W (.lst [.int x, .int y, .int z]) n t hn6 ht3
  have r40 : P_law_40 (_law_book ns) _law_wishes (_law_pick ns) renamed turned plus size ahead lifted [some .scr, nn, nn, nn, nn, nn, nn, nn, nn, nn, nn, nn, nn, nn, nn] [] = .rt (.bl true) h' := by
    unfold P_law_40
    refine stepD _ _ _ q39 rfl ?_
    unfold P_law_38
    refine stepD _ _ _ q37 rfl ?_
    unfold P_law_36
    refine stepD _ _ _ q35 rfl ?_
    unfold P_law_34
    refine stepD _ _ _ q33 rfl ?_
    unfold P_law_32
    refine stepD _ _ _ q31 rfl ?_
    unfold P_law_30
    refine stepD _ _ _ q29 rfl ?_
    unfold P_law_28
    refine stepD _ _ _ q27 rfl ?_
    unfold P_law_26
    refine stepD _ _ _ q25 rfl ?_
    unfold P_law_24
    refine stepD _ _ _ q23 rfl ?_
    unfold P_law_22
    refine stepD _ _ _ q21 rfl ?_
    unfold P_law_20
    refine stepD _ _ _ (q19 _) rfl ?_
    exact q18
  have e0 : law ns [.scr] [] = compact 0 (toRs (P_law_40 (_law_book ns) _law_wishes (_law_pick ns) renamed turned plus size ahead lifted [some .scr, nn, nn, nn, nn, nn, nn, nn, nn, nn, nn, nn, nn, nn, nn] [])) := rfl
  rw [e0, r40]
  exact Wr.compact_bl true _
end K03
theorem PySem.Challenge.cw_wishrules_k03_whole_books_led_holds : PySem.Challenge.rw_wishrules_k03_whole_books_led.Holds :=
  K03.holds K03.law_true
