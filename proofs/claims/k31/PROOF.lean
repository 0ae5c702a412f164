import PyProof.Rows.All
import Wide.All
import OpenK.AllK
import Wide.FinOn
import HandS.ForMost
import HandS.ForExc
import HandS.CallSlots
import HandS.Lambda
import KE.KeyNested
import HandS.Iter
import KE.GoesNew
import HandS.Deep
import HandS.IsInst
import HandS.TupAny
import HandS.TupMul
import HandS.Style
import HandS.Strs
import PyProof.SeqIndex
import HandS.SetFor
import HandS.SortInts
import HandS.Wide
import HandS.Defaults
import HandS.HeadHook2
import HandS.HeadHook4
import HandS.Ends
import HandS.Head0
import HandS.Head1
import HandS.Head2
import HandS.HeadEnd
import PyProof.Rows.SortShellAny
import KE.GoesEnum
import KE.KTupSum
import KE.DataMinMax
import HandS.TupSets
import HandS.TupLe
import HandS.ExcOwn
import HandS.ExcIs
import KE.KDictCopyH
import KE.KDictList
import PyProof.DictUpdate
import HandS.HotCalls
import HandS.EndTab
import HandS.HeadWalk
import KE.KNestM
import HandS.Text
import PySem.Challenge.RW_wishrules_k31_whole_books_counted
set_option Elab.async false
set_option linter.all false
set_option maxRecDepth 100000
set_option maxHeartbeats 4000000
set_option autoImplicit false
namespace Wr
open PySem PySem.Spec PyProof.Rows L2
inductive Va where
  | non | bl (b : Bool) | int (i : Int) | str (x : Str) | ty (n : String) | gl (n : Nat) | scr | exc (c : Nat) | ref (i : Nat) | tup (xs : List Va)
inductive Ob where
  | lst (xs : List Va)
  | dK (kvs : List (Key × Va))
  | dT (kvs : List (List Key × Va))
  | dU (kvs : List (NestedKey × Va))
  | dF (kvs : List (Key × Va))
  | ins (c : Nat) (fs : List (Str × Va))
abbrev Sg := List (Option Va)
abbrev Hs := List Ob
inductive Rs (α : Type) where
  | ok (a : α) (h : Hs) | ex (c : Nat) (h : Hs) | no
inductive RS where
  | nx (s : Sg) (h : Hs) | rt (v : Va) (h : Hs) | bk (s : Sg) (h : Hs) | ct (s : Sg) (h : Hs) | ex (c : Nat) (s : Sg) (h : Hs) | no
abbrev De := Sg → Hs → Rs Va
abbrev Dt := Sg → Hs → Rs Bool
abbrev Da := Sg → Hs → Rs (List Va)
abbrev Ds := Sg → Hs → RS
def Rs.bind {α β : Type} (r : Rs α) (k : α → Hs → Rs β) : Rs β := match r with
  | .ok a h => k a h
  | .ex c h => .ex c h
  | .no => .no
structure Gd where
  K : PySem.W.Frag
  G : Nat → Addr
  sa : Addr
  ns : List Int
  T : List (Addr × Str)
  hot : Option (Addr × Obj)
def ScrAt (g : Gd) (H : Hp) : Prop :=
  (∃ o, H g.sa = some (.frz o (.lst (g.ns.map V.int)))) ∨
    ∃ (o : Obj) (its : Array Value) (n : Nat), g.K.lookup g.sa = some o ∧ o.cls = .type "list" ∧ o.dict = none ∧ o.data = .seq its n ∧ its.size ≤ sizeLine ∧ Vals (g.ns.map V.int) its.toList
/-- a tuple whose object is known to bear no dict -/
def SqN (K : PySem.W.Frag) (H : Hp) (a : Addr) (xs : List V) : Prop :=
  (∃ o : Obj, H a = some (.frz o (.tup xs)) ∧ o.dict = none) ∨
    ∃ (o : Obj) (its : Array Value) (n : Nat), K.lookup a = some o ∧ o.cls = .type "tuple" ∧ o.dict = none ∧ o.data = .seq its n ∧ its.size ≤ sizeLine ∧ Vals xs its.toList
theorem SqN.sqT {K : PySem.W.Frag} {H : Hp} {a : Addr} {xs : List V} (h : SqN K H a xs) : SqT K H a xs := by
  rcases h with ⟨o, h, _⟩ | ⟨o, its, n, h1, h2, _, h3, h4, h5⟩
  · exact .inl (.inr ⟨o, h⟩)
  · exact .inr ⟨o, its, n, h1, h2, h3, h4, h5⟩
def DTo (a : Addr) (xs : List (List Key × Addr × Value)) : HO := .ext fun h => ∃ o es ep, h.get? a = some o ∧ o.ExactDict ∧ o.data = .dict es ep ∧ ∀ (P : Program) (w : World), es.toList = xs.map (entryOfKey (tupleKind (mixKind P w)))
abbrev KTn (K : PySem.W.Frag) (H : Hp) : List (List Key × V) → List (List Key × Addr × Value) → Prop := Paired fun p q => p.1 = q.1 ∧ SqN K H q.2.1 (p.1.map kV) ∧ RelV p.2 q.2.2
def DtX (K : PySem.W.Frag) (H : Hp) (a : Addr) (ws : List (List Key × V)) : Prop :=
  (a == sysModules) = false ∧ ∃ xs, H a = some (DTo a xs) ∧ KTn K H ws xs ∧ (xs.map (·.1)).Nodup ∧ ∀ q ∈ xs, ∃ is : List Int, q.1 = is.map Sum.inl
theorem DtX.keep {K : PySem.W.Frag} {H H' : Hp} {a : Addr} {ws : List (List Key × V)} (h : DtX K H a ws) (e : ∀ o, H a = some o → H' a = some o) (t : ∀ b vs, SqN K H b vs → SqN K H' b vs) : DtX K H' a ws := by
  obtain ⟨h0, xs, h1, h2, h3⟩ := h
  exact ⟨h0, xs, e _ h1, Paired.mapP h2 fun _ _ z => ⟨z.1, t _ _ z.2.1, z.2.2⟩, h3⟩
mutual
def TN (K : PySem.W.Frag) (H : Hp) : NestedKey → V → Prop
  | .num i, v => v = .int i
  | .tup ks, v => ∃ a vs, v = .ref a ∧ SqN K H a vs ∧ TNs K H ks vs
  | .none, _ => False
  | .text _, _ => False
def TNs (K : PySem.W.Frag) (H : Hp) : List NestedKey → List V → Prop
  | [], vs => vs = []
  | k :: ks, vs => ∃ v r, vs = v :: r ∧ TN K H k v ∧ TNs K H ks r
end
mutual
theorem TN.keep {K : PySem.W.Frag} {H H' : Hp} (t : ∀ b vs, SqN K H b vs → SqN K H' b vs) : ∀ (k : NestedKey) (v : V), TN K H k v → TN K H' k v
  | .num i, v, h => by simpa only [TN] using h
  | .tup ks, v, h => by
    simp only [TN] at h ⊢
    obtain ⟨a, vs, e, q, r⟩ := h
    exact ⟨a, vs, e, t _ _ q, TNs.keep t ks vs r⟩
  | .none, v, h => by simp only [TN] at h
  | .text _, v, h => by simp only [TN] at h
theorem TNs.keep {K : PySem.W.Frag} {H H' : Hp} (t : ∀ b vs, SqN K H b vs → SqN K H' b vs) : ∀ (ks : List NestedKey) (vs : List V), TNs K H ks vs → TNs K H' ks vs
  | [], vs, h => by simpa only [TNs] using h
  | k :: ks, vs, h => by
    simp only [TNs] at h ⊢
    obtain ⟨v, r, e, q, s⟩ := h
    exact ⟨v, r, e, TN.keep t k v q, TNs.keep t ks r s⟩
end
mutual
def numK : NestedKey → Bool
  | .num _ => true
  | .tup ks => numKs ks
  | .none => false
  | .text _ => false
def numKs : List NestedKey → Bool
  | [] => true
  | k :: ks => numK k && numKs ks
end
def DUo (a : Addr) (xs : List (NestedKey × Addr × Value)) : HO := .ext fun h => ∃ o es ep, h.get? a = some o ∧ o.ExactDict ∧ o.data = .dict es ep ∧ ∀ (P : Program) (w : World), es.toList = xs.map (entryOfKey (nestedKind P w))
abbrev KUn (K : PySem.W.Frag) (H : Hp) : List (NestedKey × V) → List (NestedKey × Addr × Value) → Prop := Paired fun p q => p.1 = q.1 ∧ TN K H p.1 (.ref q.2.1) ∧ RelV p.2 q.2.2
def DuX (K : PySem.W.Frag) (H : Hp) (a : Addr) (ws : List (NestedKey × V)) : Prop :=
  (a == sysModules) = false ∧ ∃ xs, H a = some (DUo a xs) ∧ KUn K H ws xs ∧ (xs.map (·.1)).Nodup ∧ ∀ q ∈ xs, numK q.1 = true ∧ q.1.depth ≤ 8
theorem DuX.keep {K : PySem.W.Frag} {H H' : Hp} {a : Addr} {ws : List (NestedKey × V)} (h : DuX K H a ws) (e : ∀ o, H a = some o → H' a = some o) (t : ∀ b vs, SqN K H b vs → SqN K H' b vs) : DuX K H' a ws := by
  obtain ⟨h0, xs, h1, h2, h3⟩ := h
  exact ⟨h0, xs, e _ h1, Paired.mapP h2 fun _ _ z => ⟨z.1, TN.keep t _ _ z.2.1, z.2.2⟩, h3⟩
/-- a caught exception that is kept: its object stays as it is -/
abbrev exF : HO := .ext fun _ => True
def ExV (g : Gd) (H : Hp) (c : Nat) (v : V) : Prop := ∃ (a : Addr) (oe : Obj), v = .ref a ∧ (H a = some (.frz oe exF) ∨ g.hot = some (a, oe)) ∧ oe.cls = .ref (g.G c) ∧ oe.dict = none ∧ ∃ vs, oe.data = .fields vs
section
variable (g : Gd) (ρ : List Addr) (H : Hp)
mutual
def Rv : Va → V → Prop
  | .non, v => v = .non
  | .bl b, v => v = .bl b
  | .int i, v => v = .int i
  | .str x, v => v = .str x
  | .ty n, v => v = .ty n
  | .gl n, v => v = .ref (g.G n)
  | .scr, v => v = .ref g.sa ∧ ScrAt g H
  | .exc c, v => ExV g H c v
  | .ref i, v => ∃ a, ρ[i]? = some a ∧ v = .ref a
  | .tup xs, v => ∃ a vs, v = .ref a ∧ SqN g.K H a vs ∧ Rvs xs vs
def Rvs : List Va → List V → Prop
  | [], vs => vs = []
  | x :: xs, vs => ∃ v r, vs = v :: r ∧ Rv x v ∧ Rvs xs r
end
def Rkv {κ : Type} : List (κ × Va) → List (κ × V) → Prop
  | [], vs => vs = []
  | (k, x) :: xs, vs => ∃ v r, vs = (k, v) :: r ∧ Rv g ρ H x v ∧ Rkv xs r
def Ro (a : Addr) : Ob → Prop
  | .lst xs => ∃ vs, H a = some (.lst vs) ∧ Rvs g ρ H xs vs
  | .dK kvs => ∃ ws, H a = some (.dK ws) ∧ Rkv g ρ H kvs ws
  | .dT kvs => ∃ ws, DtX g.K H a ws ∧ Rkv g ρ H kvs ws
  | .dU kvs => ∃ ws, DuX g.K H a ws ∧ Rkv g ρ H kvs ws
  | .ins c fs => ∃ dx ws, H a = some (.ins (g.G c) dx ws) ∧ Rkv g ρ H fs ws
  | .dF kvs => ∃ o ws, H a = some (.frz o (.dK ws)) ∧ Rkv g ρ H kvs ws
structure Rh (hp : Hs) : Prop where
  len : ρ.length = hp.length
  nd : ρ.Nodup
  tab : LamX.Tabs g.T H
  obj : ∀ (i : Nat) (a : Addr) (o : Ob), ρ[i]? = some a → hp[i]? = some o → Ro g ρ H a o
structure Rsl (s : Sg) (σ : L2.St) : Prop where
  len : s.length = σ.length
  at_ : ∀ (i : Nat) (x : Va), s[i]? = some (some x) → ∃ v, σ[i]? = some (some v) ∧ Rv g ρ H x v
end
/-- no table -/
def NT (o : HO) : Prop := ∀ ps, o ≠ .tbl ps
structure Sp1 (ρ : List Addr) (H : Hp) (ρ' : List Addr) (H' : Hp) : Prop where
  pre : ρ <+: ρ'
  new : ∀ b, b ∈ ρ' → b ∈ ρ ∨ ∀ o, H b = some o → NT o → False
  keep : ∀ b o, H b = some o → b ∉ ρ → NT o → H' b = some o
  frz : ∀ b o u, H b = some (.frz o u) → H' b = some (.frz o u)
theorem Sp1.refl (ρ : List Addr) (H : Hp) : Sp1 ρ H ρ H := ⟨List.prefix_refl _, fun _ h => .inl h, fun _ _ h _ _ => h, fun _ _ _ h => h⟩
theorem Sp1.trans {ρ ρ1 ρ2 : List Addr} {H H1 H2 : Hp} (a : Sp1 ρ H ρ1 H1) (b : Sp1 ρ1 H1 ρ2 H2) : Sp1 ρ H ρ2 H2 where
  pre := a.pre.trans b.pre
  new := fun c hc => by
    rcases b.new c hc with h | h
    · exact a.new c h
    · by_cases hr : c ∈ ρ
      · exact .inl hr
      · right
        exact fun o q n => h o (a.keep c o q hr n) n
  keep := fun c o hc hn nt => by
    refine b.keep c o (a.keep c o hc hn nt) (fun h => ?_) nt
    rcases a.new c h with q | q
    · exact hn q
    · exact q o hc nt
  frz := fun c o u hc => b.frz c o u (a.frz c o u hc)
theorem new_none {H : Hp} {b : Addr} (h : H b = none) : ∀ o, H b = some o → NT o → False := fun o e _ => by rw [h] at e; cases e
theorem dto_ne {a : Addr} {xs : List (List Key × Addr × Value)} {q : Str} : DTo a xs ≠ LamX.CodeO a q := fun z => by
  unfold DTo LamX.CodeO at z
  injection z with z
  have k : ∃ (oc : Obj) (vs : Array Value) (t : Tok), ({ objs := Array.replicate (a + 1) { cls := .none, data := .fields #[.none, .str q default] } } : Heap).get? a = some oc ∧ oc.data = .fields vs ∧ vs[1]? = some (.str q t) := by
    refine ⟨{ cls := .none, data := .fields #[.none, .str q default] }, #[.none, .str q default], default, ?_, rfl, rfl⟩
    unfold Heap.get?
    simp
  have k2 := (congrFun z ({ objs := Array.replicate (a + 1) { cls := .none, data := .fields #[.none, .str q default] } } : Heap)).mpr k
  obtain ⟨o, es, ep, e, _, d, _⟩ := k2
  unfold Heap.get? at e
  simp at e
  rw [← e] at d
  cases d
theorem duo_ne {a : Addr} {xs : List (NestedKey × Addr × Value)} {q : Str} : DUo a xs ≠ LamX.CodeO a q := fun z => by
  unfold DUo LamX.CodeO at z
  injection z with z
  have k : ∃ (oc : Obj) (vs : Array Value) (t : Tok), ({ objs := Array.replicate (a + 1) { cls := .none, data := .fields #[.none, .str q default] } } : Heap).get? a = some oc ∧ oc.data = .fields vs ∧ vs[1]? = some (.str q t) := by
    refine ⟨{ cls := .none, data := .fields #[.none, .str q default] }, #[.none, .str q default], default, ?_, rfl, rfl⟩
    unfold Heap.get?
    simp
  have k2 := (congrFun z ({ objs := Array.replicate (a + 1) { cls := .none, data := .fields #[.none, .str q default] } } : Heap)).mpr k
  obtain ⟨o, es, ep, e, _, d, _⟩ := k2
  unfold Heap.get? at e
  simp at e
  rw [← e] at d
  cases d
theorem nd_ix {N : List Addr} (hN : N.Nodup) {i j : Nat} {x : Addr} (a : N[i]? = some x) (b : N[j]? = some x) : i = j := by
  obtain ⟨h1, e1⟩ := List.getElem?_eq_some_iff.mp a
  obtain ⟨h2, e2⟩ := List.getElem?_eq_some_iff.mp b
  exact (List.getElem_inj hN).mp (e1.trans e2.symm)
section
variable {g : Gd} {ρ ρ' : List Addr} {H H' : Hp} {hp : Hs}
theorem Rh.there (R : Rh g ρ H hp) {a : Addr} (h : a ∈ ρ) : ∃ (i : Nat) (o : Ob), ρ[i]? = some a ∧ hp[i]? = some o ∧ Ro g ρ H a o := by
  obtain ⟨i, hi, e⟩ := List.getElem_of_mem h
  have h1 : ρ[i]? = some a := by rw [List.getElem?_eq_getElem hi, e]
  have hl : i < hp.length := by rw [← R.len]; exact hi
  exact ⟨i, hp[i], h1, List.getElem?_eq_getElem hl, R.obj _ _ _ h1 (List.getElem?_eq_getElem hl)⟩
/-- what may be ours -/
def Own : Option HO → Prop
  | some (.lst _) => True
  | some (.dK _) => True
  | some (.dT _) => True
  | some (.ins _ _ _) => True
  | some (.frz _ (.dK _)) => True
  | some (.ext _) => True
  | _ => False
theorem Ro.mut {a : Addr} {o : Ob} (h : Ro g ρ H a o) : Own (H a) := by
  cases o with
  | lst xs => obtain ⟨vs, e, _⟩ := h; rw [e]; trivial
  | dK kvs => obtain ⟨vs, e, _⟩ := h; rw [e]; trivial
  | dT kvs => obtain ⟨vs, ⟨_, _, e, _⟩, _⟩ := h; rw [e]; trivial
  | dU kvs => obtain ⟨vs, ⟨_, _, e, _⟩, _⟩ := h; rw [e]; trivial
  | ins c fs => obtain ⟨dx, vs, e, _⟩ := h; rw [e]; trivial
  | dF kvs => obtain ⟨dx, vs, e, _⟩ := h; rw [e]; trivial
theorem Rh.mut (R : Rh g ρ H hp) {a : Addr} (h : a ∈ ρ) : Own (H a) := by
  obtain ⟨_, _, _, _, r⟩ := R.there h
  exact r.mut
theorem Ro.code {a : Addr} {o : Ob} (h : Ro g ρ H a o) (q : Str) : H a ≠ some (LamX.CodeO a q) := by
  cases o with
  | lst xs => obtain ⟨vs, e, _⟩ := h; rw [e]; intro z; cases z
  | dK kvs => obtain ⟨vs, e, _⟩ := h; rw [e]; intro z; cases z
  | dT kvs => obtain ⟨vs, ⟨_, _, e, _⟩, _⟩ := h; rw [e]; exact fun z => dto_ne (Option.some.inj z)
  | dU kvs => obtain ⟨vs, ⟨_, _, e, _⟩, _⟩ := h; rw [e]; exact fun z => duo_ne (Option.some.inj z)
  | ins c fs => obtain ⟨dx, vs, e, _⟩ := h; rw [e]; intro z; cases z
  | dF kvs => obtain ⟨dx, vs, e, _⟩ := h; rw [e]; intro z; cases z
theorem Rh.not_in (R : Rh g ρ H hp) {a : Addr} {o : HO} (h : H a = some o) (hm : ¬ Own (some o)) : a ∉ ρ := fun z => hm (h ▸ R.mut z)
theorem Rh.tabs (R : Rh g ρ H hp) (e : ∀ b o, H b = some o → b ∉ ρ → H' b = some o) : LamX.Tabs g.T H' := fun p hpT => by
  obtain ⟨ps, h1, h2, h3⟩ := R.tab p hpT
  refine ⟨ps, e _ _ h1 (R.not_in h1 fun z => z), h2, fun pos cv hc => ?_⟩
  obtain ⟨c, e1, e2⟩ := h3 pos cv hc
  refine ⟨c, e1, e _ _ e2 fun z => ?_⟩
  obtain ⟨_, _, _, _, r⟩ := R.there z
  exact r.code _ e2
theorem NT.ofOwn {o : HO} (h : Own (some o)) : NT o := fun ps z => by rw [z] at h; exact h
theorem Ro.nt {a : Addr} {o : Ob} {u : HO} (h : Ro g ρ H a o) (e : H a = some u) : NT u := NT.ofOwn (by rw [← e]; exact h.mut)
theorem Rh.clash (R : Rh g ρ H hp) {a : Addr} (h : a ∈ ρ) (q : ∀ o, H a = some o → NT o → False) : False := by
  have m := R.mut h
  cases e : H a with
  | none => rw [e] at m; exact m
  | some o => exact q o e (NT.ofOwn (by rw [← e]; exact m))
theorem SqN.step (R : Rh g ρ H hp) (S : Sp1 ρ H ρ' H') {a : Addr} {vs : List V} (h : SqN g.K H a vs) : SqN g.K H' a vs := by
  rcases h with ⟨o, h, d⟩ | h
  · exact .inl ⟨o, S.keep _ _ h (R.not_in h fun z => z) (fun _ z => nomatch z), d⟩
  · exact .inr h
theorem ScrAt.step (R : Rh g ρ H hp) (S : Sp1 ρ H ρ' H') (h : ScrAt g H) : ScrAt g H' := by
  rcases h with ⟨o, h⟩ | h
  · exact .inl ⟨o, S.keep _ _ h (R.not_in h fun z => z) (fun _ z => nomatch z)⟩
  · exact .inr h
theorem pre_get {α : Type} {a b : List α} (h : a <+: b) {i : Nat} {x : α} (e : a[i]? = some x) : b[i]? = some x := by
  obtain ⟨c, rfl⟩ := h
  have hi : i < a.length := (List.getElem?_eq_some_iff.mp e).1
  rw [List.getElem?_append_left hi]; exact e
mutual
theorem Rv.step (R : Rh g ρ H hp) (S : Sp1 ρ H ρ' H') : ∀ (x : Va) (v : V), Rv g ρ H x v → Rv g ρ' H' x v
  | .non, _, h => by simpa only [Rv] using h
  | .bl _, _, h => by simpa only [Rv] using h
  | .int _, _, h => by simpa only [Rv] using h
  | .str _, _, h => by simpa only [Rv] using h
  | .ty _, _, h => by simpa only [Rv] using h
  | .gl _, _, h => by simpa only [Rv] using h
  | .scr, _, h => by
    simp only [Rv] at h ⊢
    exact ⟨h.1, h.2.step R S⟩
  | .exc c, _, h => by
    simp only [Rv] at h ⊢
    obtain ⟨a, oe, e, z, q⟩ := h
    exact ⟨a, oe, e, z.imp (S.frz _ _ _) id, q⟩
  | .ref i, _, h => by
    simp only [Rv] at h ⊢
    obtain ⟨a, e, h⟩ := h
    exact ⟨a, pre_get S.pre e, h⟩
  | .tup xs, _, h => by
    simp only [Rv] at h ⊢
    obtain ⟨a, vs, e, q, r⟩ := h
    exact ⟨a, vs, e, SqN.step R S q, Rvs.step R S xs vs r⟩
theorem Rvs.step (R : Rh g ρ H hp) (S : Sp1 ρ H ρ' H') : ∀ (x : List Va) (v : List V), Rvs g ρ H x v → Rvs g ρ' H' x v
  | [], _, h => by simpa only [Rvs] using h
  | x :: xs, _, h => by
    simp only [Rvs] at h ⊢
    obtain ⟨v, r, e, h1, h2⟩ := h
    exact ⟨v, r, e, Rv.step R S x v h1, Rvs.step R S xs r h2⟩
end
theorem Rkv.step {κ : Type} (R : Rh g ρ H hp) (S : Sp1 ρ H ρ' H') : ∀ (x : List (κ × Va)) (v : List (κ × V)), Rkv g ρ H x v → Rkv g ρ' H' x v
  | [], _, h => h
  | (k, x) :: xs, _, h => by
    obtain ⟨v, r, e, h1, h2⟩ := h
    exact ⟨v, r, e, Rv.step R S x v h1, Rkv.step R S xs r h2⟩
theorem Rsl.step (R : Rh g ρ H hp) (S : Sp1 ρ H ρ' H') {s : Sg} {σ : L2.St} (h : Rsl g ρ H s σ) : Rsl g ρ' H' s σ :=
  ⟨h.len, fun i x e => by obtain ⟨v, e1, r⟩ := h.at_ i x e; exact ⟨v, e1, Rv.step R S _ _ r⟩⟩
theorem Rsl.set {s : Sg} {σ : L2.St} (h : Rsl g ρ H s σ) (i : Nat) {x : Va} {v : V} (r : Rv g ρ H x v) : Rsl g ρ H (s.set i (some x)) (σ.set i (some v)) := by
  refine ⟨by simpa using h.len, fun j y e => ?_⟩
  by_cases hj : i = j
  · subst hj
    by_cases hi : i < s.length
    · rw [List.getElem?_set_self hi] at e
      cases e
      exact ⟨v, by rw [List.getElem?_set_self (by rw [← h.len]; exact hi)], r⟩
    · rw [List.getElem?_eq_none (by simpa using hi)] at e; cases e
  · rw [List.getElem?_set_ne hj] at e ⊢
    exact h.at_ j y e
theorem Rvs.length : ∀ {xs : List Va} {vs : List V}, Rvs g ρ H xs vs → xs.length = vs.length
  | [], _, h => by simp only [Rvs] at h; subst h; rfl
  | x :: xs, _, h => by
    simp only [Rvs] at h
    obtain ⟨v, r, rfl, _, h2⟩ := h
    simp [Rvs.length h2]
theorem Rvs.get : ∀ {xs : List Va} {vs : List V} {i : Nat} {x : Va}, Rvs g ρ H xs vs → xs[i]? = some x → ∃ v, vs[i]? = some v ∧ Rv g ρ H x v
  | [], _, _, _, _, e => by simp at e
  | y :: xs, _, 0, x, h, e => by
    simp only [Rvs] at h
    obtain ⟨v, r, rfl, h1, h2⟩ := h
    simp at e; subst e
    exact ⟨v, rfl, h1⟩
  | y :: xs, _, i + 1, x, h, e => by
    simp only [Rvs] at h
    obtain ⟨v, r, rfl, h1, h2⟩ := h
    obtain ⟨w, e1, r1⟩ := Rvs.get (i := i) h2 (by simpa using e)
    exact ⟨w, by simpa using e1, r1⟩
theorem Rvs.append : ∀ {xs ys : List Va} {vs ws : List V}, Rvs g ρ H xs vs → Rvs g ρ H ys ws → Rvs g ρ H (xs ++ ys) (vs ++ ws)
  | [], _, _, _, h, h' => by simp only [Rvs] at h; subst h; exact h'
  | x :: xs, ys, _, ws, h, h' => by
    simp only [Rvs] at h
    obtain ⟨v, r, rfl, h1, h2⟩ := h
    simp only [List.cons_append, Rvs]
    exact ⟨v, r ++ ws, rfl, h1, Rvs.append h2 h'⟩
theorem Rvs.nil : Rvs g ρ H [] [] := by simp only [Rvs]
theorem Rvs.cons {x : Va} {v : V} {xs : List Va} {vs : List V} (h : Rv g ρ H x v) (h' : Rvs g ρ H xs vs) : Rvs g ρ H (x :: xs) (v :: vs) := by
  simp only [Rvs]; exact ⟨v, vs, rfl, h, h'⟩
theorem Rvs.one {x : Va} {v : V} (h : Rv g ρ H x v) : Rvs g ρ H [x] [v] := Rvs.cons h Rvs.nil
theorem Rvs.set : ∀ {xs : List Va} {vs : List V} {x : Va} {v : V} (i : Nat), Rvs g ρ H xs vs → Rv g ρ H x v → Rvs g ρ H (xs.set i x) (vs.set i v)
  | [], _, _, _, _, h, _ => by simp only [Rvs] at h; subst h; simp only [List.set_nil, Rvs]
  | y :: xs, _, x, v, 0, h, hv => by
    simp only [Rvs] at h
    obtain ⟨w, r, rfl, h1, h2⟩ := h
    exact Rvs.cons hv h2
  | y :: xs, _, x, v, i + 1, h, hv => by
    simp only [Rvs] at h
    obtain ⟨w, r, rfl, h1, h2⟩ := h
    exact Rvs.cons h1 (Rvs.set i h2 hv)
theorem Rvs.of_get : ∀ {xs : List Va} {vs : List V}, xs.length = vs.length → (∀ (i : Nat) (x : Va) (v : V), xs[i]? = some x → vs[i]? = some v → Rv g ρ H x v) → Rvs g ρ H xs vs
  | [], [], _, _ => Rvs.nil
  | [], _ :: _, e, _ => by simp at e
  | _ :: _, [], e, _ => by simp at e
  | x :: xs, v :: vs, e, h => Rvs.cons (h 0 x v rfl rfl) (Rvs.of_get (by simpa using e) fun i a b h1 h2 => h (i + 1) a b (by simpa using h1) (by simpa using h2))
theorem Rvs.take {xs : List Va} {vs : List V} (n : Nat) (h : Rvs g ρ H xs vs) : Rvs g ρ H (xs.take n) (vs.take n) := by
  refine Rvs.of_get (by simp [h.length]) fun i x v h1 h2 => ?_
  have a : i < n ∧ xs[i]? = some x := by
    rw [List.getElem?_take] at h1; split at h1 <;> simp_all
  have b : vs[i]? = some v := by
    rw [List.getElem?_take] at h2; split at h2 <;> simp_all
  obtain ⟨w, e, r⟩ := h.get a.2
  rw [b] at e; cases e; exact r
theorem Rvs.drop {xs : List Va} {vs : List V} (n : Nat) (h : Rvs g ρ H xs vs) : Rvs g ρ H (xs.drop n) (vs.drop n) := by
  refine Rvs.of_get (by simp [h.length]) fun i x v h1 h2 => ?_
  rw [List.getElem?_drop] at h1 h2
  obtain ⟨w, e, r⟩ := h.get h1
  rw [h2] at e; cases e; exact r
theorem Rvs.reverse {xs : List Va} {vs : List V} (h : Rvs g ρ H xs vs) : Rvs g ρ H xs.reverse vs.reverse := by
  have hl := h.length
  refine Rvs.of_get (by simp [hl]) fun i x v h1 h2 => ?_
  have hi : i < xs.length := by have := (List.getElem?_eq_some_iff.mp h1).1; simpa using this
  rw [List.getElem?_reverse hi] at h1
  rw [List.getElem?_reverse (by omega)] at h2
  obtain ⟨w, e, r⟩ := h.get h1
  rw [hl] at e
  rw [h2] at e; cases e; exact r
theorem Rvs.none_of {xs : List Va} {vs : List V} {i : Nat} (h : Rvs g ρ H xs vs) (e : xs[i]? = none) : vs[i]? = none := by
  have := h.length
  rw [List.getElem?_eq_none_iff] at e ⊢
  omega
theorem Rh.new (R : Rh g ρ H hp) {p : Addr} {u : HO} {o : Ob} (hn : H p = none) (ho : ∀ (S : Sp1 ρ H (ρ ++ [p]) (upd H p u)), Ro g (ρ ++ [p]) (upd H p u) p o) :
    Sp1 ρ H (ρ ++ [p]) (upd H p u) ∧ Rh g (ρ ++ [p]) (upd H p u) (hp ++ [o]) := by
  have S : Sp1 ρ H (ρ ++ [p]) (upd H p u) := by
    refine ⟨List.prefix_append _ _, fun b hb => ?_, fun b x hb _ _ => ?_, fun b x u hb => ?_⟩
    · rcases List.mem_append.mp hb with h | h
      · exact .inl h
      · obtain rfl := List.mem_singleton.mp h; exact .inr (new_none hn)
    · rw [upd_ne (ne_of_none hb hn)]; exact hb
    · rw [upd_ne (ne_of_none hb hn)]; exact hb
  have hp' : p ∉ ρ := fun h => by have := R.mut h; rw [hn] at this; exact this
  refine ⟨S, ⟨by simp [R.len], ?_, R.tabs fun b x hb _ => by rw [upd_ne (ne_of_none hb hn)]; exact hb, fun i a x h1 h2 => ?_⟩⟩
  · rw [List.nodup_append]
    refine ⟨R.nd, by simp, fun a ha b hb => ?_⟩
    obtain rfl := List.mem_singleton.mp hb
    intro e; subst e; exact hp' ha
  · by_cases hi : i < ρ.length
    · rw [List.getElem?_append_left hi] at h1
      rw [List.getElem?_append_left (by rw [← R.len]; exact hi)] at h2
      have q := R.obj i a x h1 h2
      have hne : a ≠ p := fun e => hp' (e ▸ List.mem_of_getElem? h1)
      cases x with
      | lst xs => obtain ⟨vs, e, r⟩ := q; exact ⟨vs, by rw [upd_ne hne]; exact e, Rvs.step R S _ _ r⟩
      | dK xs => obtain ⟨vs, e, r⟩ := q; exact ⟨vs, by rw [upd_ne hne]; exact e, Rkv.step R S _ _ r⟩
      | dT xs => obtain ⟨vs, e, r⟩ := q; exact ⟨vs, e.keep (fun _ z => by rw [upd_ne hne]; exact z) (fun _ _ z => SqN.step R S z), Rkv.step R S _ _ r⟩
      | dU xs => obtain ⟨vs, e, r⟩ := q; exact ⟨vs, e.keep (fun _ z => by rw [upd_ne hne]; exact z) (fun _ _ z => SqN.step R S z), Rkv.step R S _ _ r⟩
      | ins c xs => obtain ⟨dx, vs, e, r⟩ := q; exact ⟨dx, vs, by rw [upd_ne hne]; exact e, Rkv.step R S _ _ r⟩
      | dF xs => obtain ⟨dx, vs, e, r⟩ := q; exact ⟨dx, vs, by rw [upd_ne hne]; exact e, Rkv.step R S _ _ r⟩
    · have hi2 : i = ρ.length := by
        have := (List.getElem?_eq_some_iff.mp h1).1
        simp at this; omega
      subst hi2
      simp at h1
      subst h1
      rw [R.len] at h2
      simp at h2
      subst h2
      exact ho S
/-- a tuple (or anything that is not ours) is laid -/
theorem Rh.laid (R : Rh g ρ H hp) {p : Addr} {u : HO} (hn : H p = none) : Sp1 ρ H ρ (upd H p u) ∧ Rh g ρ (upd H p u) hp := by
  have S : Sp1 ρ H ρ (upd H p u) := ⟨List.prefix_refl _, fun _ h => .inl h, fun b x hb _ _ => by rw [upd_ne (ne_of_none hb hn)]; exact hb, fun b x u hb => by rw [upd_ne (ne_of_none hb hn)]; exact hb⟩
  refine ⟨S, ⟨R.len, R.nd, R.tabs fun b x hb _ => by rw [upd_ne (ne_of_none hb hn)]; exact hb, fun i a x h1 h2 => ?_⟩⟩
  have q := R.obj i a x h1 h2
  have hne : a ≠ p := fun e => by
    have := q.mut; rw [e, hn] at this; exact this
  cases x with
  | lst xs => obtain ⟨vs, e, r⟩ := q; exact ⟨vs, by rw [upd_ne hne]; exact e, Rvs.step R S _ _ r⟩
  | dK xs => obtain ⟨vs, e, r⟩ := q; exact ⟨vs, by rw [upd_ne hne]; exact e, Rkv.step R S _ _ r⟩
  | dT xs => obtain ⟨vs, e, r⟩ := q; exact ⟨vs, e.keep (fun _ z => by rw [upd_ne hne]; exact z) (fun _ _ z => SqN.step R S z), Rkv.step R S _ _ r⟩
  | dU xs => obtain ⟨vs, e, r⟩ := q; exact ⟨vs, e.keep (fun _ z => by rw [upd_ne hne]; exact z) (fun _ _ z => SqN.step R S z), Rkv.step R S _ _ r⟩
  | ins c xs => obtain ⟨dx, vs, e, r⟩ := q; exact ⟨dx, vs, by rw [upd_ne hne]; exact e, Rkv.step R S _ _ r⟩
  | dF xs => obtain ⟨dx, vs, e, r⟩ := q; exact ⟨dx, vs, by rw [upd_ne hne]; exact e, Rkv.step R S _ _ r⟩
/-- an object of ours is changed -/
theorem Rh.put (R : Rh g ρ H hp) {i : Nat} {a : Addr} {u : HO} {o : Ob} (hi : ρ[i]? = some a) (hfz : ∀ x y, H a ≠ some (.frz x y)) (ho : ∀ (S : Sp1 ρ H ρ (upd H a u)), Ro g ρ (upd H a u) a o) :
    Sp1 ρ H ρ (upd H a u) ∧ Rh g ρ (upd H a u) (hp.set i o) := by
  have hm : a ∈ ρ := List.mem_of_getElem? hi
  have S : Sp1 ρ H ρ (upd H a u) := ⟨List.prefix_refl _, fun _ h => .inl h, fun b x hb hn _ => by rw [upd_ne (show b ≠ a from fun e => hn (by rw [e]; exact hm))]; exact hb, fun b x y hb => by rw [upd_ne (show b ≠ a from fun e => hfz x y (by rw [← e]; exact hb))]; exact hb⟩
  refine ⟨S, ⟨by simp [R.len], R.nd, R.tabs fun b x hb hn => by rw [upd_ne (show b ≠ a from fun e => hn (by rw [e]; exact hm))]; exact hb, fun j b x h1 h2 => ?_⟩⟩
  by_cases hj : i = j
  · subst hj
    rw [hi] at h1; cases h1
    have : i < hp.length := by rw [← R.len]; exact (List.getElem?_eq_some_iff.mp hi).1
    rw [List.getElem?_set_self this] at h2
    cases h2
    exact ho S
  · rw [List.getElem?_set_ne hj] at h2
    have q := R.obj j b x h1 h2
    have hne : b ≠ a := fun e => hj (nd_ix R.nd hi (by rw [e] at h1; exact h1))
    cases x with
    | lst xs => obtain ⟨vs, e, r⟩ := q; exact ⟨vs, by rw [upd_ne hne]; exact e, Rvs.step R S _ _ r⟩
    | dK xs => obtain ⟨vs, e, r⟩ := q; exact ⟨vs, by rw [upd_ne hne]; exact e, Rkv.step R S _ _ r⟩
    | dT xs => obtain ⟨vs, e, r⟩ := q; exact ⟨vs, e.keep (fun _ z => by rw [upd_ne hne]; exact z) (fun _ _ z => SqN.step R S z), Rkv.step R S _ _ r⟩
    | dU xs => obtain ⟨vs, e, r⟩ := q; exact ⟨vs, e.keep (fun _ z => by rw [upd_ne hne]; exact z) (fun _ _ z => SqN.step R S z), Rkv.step R S _ _ r⟩
    | ins c xs => obtain ⟨dx, vs, e, r⟩ := q; exact ⟨dx, vs, by rw [upd_ne hne]; exact e, Rkv.step R S _ _ r⟩
    | dF xs => obtain ⟨dx, vs, e, r⟩ := q; exact ⟨dx, vs, by rw [upd_ne hne]; exact e, Rkv.step R S _ _ r⟩
end
def PoE (g : Gd) (ρ : List Addr) (H : Hp) (r : Rs Va) (Q : VK) (E : XK) : Prop := match r with
  | .ok v h => ∀ ρ' H' x, Sp1 ρ H ρ' H' → Rh g ρ' H' h → Rv g ρ' H' v x → Q x H'
  | .ex c h => ∀ ρ' H', Sp1 ρ H ρ' H' → Rh g ρ' H' h → E (.ref (g.G c)) none H'
  | .no => False
def PoT (g : Gd) (ρ : List Addr) (H : Hp) (r : Rs Bool) (Q : Bool → Hp → Prop) (E : XK) : Prop := match r with
  | .ok b h => ∀ ρ' H', Sp1 ρ H ρ' H' → Rh g ρ' H' h → Q b H'
  | .ex c h => ∀ ρ' H', Sp1 ρ H ρ' H' → Rh g ρ' H' h → E (.ref (g.G c)) none H'
  | .no => False
def PoA (g : Gd) (ρ : List Addr) (H : Hp) (r : Rs (List Va)) (Q : List V → Hp → Prop) (E : XK) : Prop := match r with
  | .ok vs h => ∀ ρ' H' xs, Sp1 ρ H ρ' H' → Rh g ρ' H' h → Rvs g ρ' H' vs xs → Q xs H'
  | .ex c h => ∀ ρ' H', Sp1 ρ H ρ' H' → Rh g ρ' H' h → E (.ref (g.G c)) none H'
  | .no => False
def PoS (g : Gd) (ρ : List Addr) (H : Hp) (r : RS) (D : Ends) (W : WX) : Prop := match r with
  | .nx s h => ∀ ρ' H' σ, Sp1 ρ H ρ' H' → Rh g ρ' H' h → Rsl g ρ' H' s σ → D.nx σ H'
  | .bk s h => ∀ ρ' H' σ, Sp1 ρ H ρ' H' → Rh g ρ' H' h → Rsl g ρ' H' s σ → D.bk σ H'
  | .ct s h => ∀ ρ' H' σ, Sp1 ρ H ρ' H' → Rh g ρ' H' h → Rsl g ρ' H' s σ → D.ct σ H'
  | .rt v h => ∀ ρ' H' x, Sp1 ρ H ρ' H' → Rh g ρ' H' h → Rv g ρ' H' v x → D.rt x H'
  | .ex c s h => ∀ ρ' H' σ, Sp1 ρ H ρ' H' → Rh g ρ' H' h → Rsl g ρ' H' s σ → W (.ref (g.G c)) none σ H'
  | .no => False
section
variable {g : Gd} {ρ ρ' : List Addr} {H H' : Hp} {Q : VK} {E : XK}
theorem PoE.at {r : Rs Va} (h : PoE g ρ H r Q E) (S : Sp1 ρ H ρ' H') : PoE g ρ' H' r Q E := by
  cases r with
  | ok v hh => exact fun ρ2 H2 x S2 R r => h ρ2 H2 x (S.trans S2) R r
  | ex c hh => exact fun ρ2 H2 S2 R => h ρ2 H2 (S.trans S2) R
  | no => exact h
theorem PoT.at {r : Rs Bool} {Q : Bool → Hp → Prop} (h : PoT g ρ H r Q E) (S : Sp1 ρ H ρ' H') : PoT g ρ' H' r Q E := by
  cases r with
  | ok v hh => exact fun ρ2 H2 S2 R => h ρ2 H2 (S.trans S2) R
  | ex c hh => exact fun ρ2 H2 S2 R => h ρ2 H2 (S.trans S2) R
  | no => exact h
theorem PoA.at {r : Rs (List Va)} {Q : List V → Hp → Prop} (h : PoA g ρ H r Q E) (S : Sp1 ρ H ρ' H') : PoA g ρ' H' r Q E := by
  cases r with
  | ok v hh => exact fun ρ2 H2 x S2 R r => h ρ2 H2 x (S.trans S2) R r
  | ex c hh => exact fun ρ2 H2 S2 R => h ρ2 H2 (S.trans S2) R
  | no => exact h
theorem PoS.at {r : RS} {D : Ends} {W : WX} (h : PoS g ρ H r D W) (S : Sp1 ρ H ρ' H') : PoS g ρ' H' r D W := by
  cases r with
  | nx v hh => exact fun ρ2 H2 x S2 R r => h ρ2 H2 x (S.trans S2) R r
  | bk v hh => exact fun ρ2 H2 x S2 R r => h ρ2 H2 x (S.trans S2) R r
  | ct v hh => exact fun ρ2 H2 x S2 R r => h ρ2 H2 x (S.trans S2) R r
  | rt v hh => exact fun ρ2 H2 x S2 R r => h ρ2 H2 x (S.trans S2) R r
  | ex c v hh => exact fun ρ2 H2 x S2 R r => h ρ2 H2 x (S.trans S2) R r
  | no => exact h
end
section
variable (g : Gd) (W : WX)
def tE (f : De) : TE := fun σ H Q => ∃ ρ s hp, Rh g ρ H hp ∧ Rsl g ρ H s σ ∧ PoE g ρ H (f s hp) Q (fun c d H' => W c d σ H')
def tT (f : Dt) : TT := fun σ H Q => ∃ ρ s hp, Rh g ρ H hp ∧ Rsl g ρ H s σ ∧ PoT g ρ H (f s hp) Q (fun c d H' => W c d σ H')
def tA (f : Da) : TA := fun σ H Q => ∃ ρ s hp, Rh g ρ H hp ∧ Rsl g ρ H s σ ∧ PoA g ρ H (f s hp) Q (fun c d H' => W c d σ H')
def tS (f : Ds) : TS := fun D σ H => ∃ ρ s hp, Rh g ρ H hp ∧ Rsl g ρ H s σ ∧ PoS g ρ H (f s hp) D W
end
/-- what is asked of the place where code stands -/
structure Cz (g : Gd) (X : Cx) (W : WX) (n : Nat) : Prop where
  K : X.K = g.K
  tk : Takes X W
  calm0 : n ≠ 0 → X.calm = true
  nd : X.N.Nodup
  room0 : n ≠ 0 → Room (n - 1) X.A
  pass0 : n ≠ 0 → PassesOwn (model X.prog X.w) X.A X.env X.xe
  un : X.A.units + 100 < cLine
theorem Cz.units {g : Gd} {X : Cx} {W : WX} {n : Nat} (C : Cz g X W n) : X.A.units + 100 < cLine := C.un
theorem Cz.calm {g : Gd} {X : Cx} {W : WX} {n : Nat} (C : Cz g X W (n + 1)) : X.calm = true := C.calm0 (by omega)
theorem Cz.room {g : Gd} {X : Cx} {W : WX} {n : Nat} (C : Cz g X W (n + 1)) : Room n X.A := C.room0 (by omega)
theorem Cz.pass {g : Gd} {X : Cx} {W : WX} {n : Nat} (C : Cz g X W (n + 1)) : PassesOwn (model X.prog X.w) X.A X.env X.xe := C.pass0 (by omega)
theorem Cz.mk1 {g : Gd} {X : Cx} {W : WX} {n : Nat} (hK : X.K = g.K) (tk : Takes X W) (calm : X.calm = true) (nd : X.N.Nodup) (room : Room n X.A) (pass : PassesOwn (model X.prog X.w) X.A X.env X.xe) : Cz g X W (n + 1) :=
  ⟨hK, tk, fun _ => calm, nd, fun _ => room, fun _ => pass, by have := room.un; omega⟩
def SE (g : Gd) (X : Cx) (W : WX) (n : Nat) (e : Expr) (f : De) : Prop := Cz g X W n → PE X e (tE g W f)
def ST (g : Gd) (X : Cx) (W : WX) (n : Nat) (e : Expr) (f : Dt) : Prop := Cz g X W n → PT X e (tT g W f)
def SW (g : Gd) (X : Cx) (W : WX) (n : Nat) (e : Expr) (f : Dt) : Prop := Cz g X W n → PW X e (tT g W f)
def SA (g : Gd) (X : Cx) (W : WX) (n : Nat) (es : List Expr) (f : Da) : Prop := Cz g X W n → PA X es (tA g W f)
def SS (g : Gd) (X : Cx) (W : WX) (n : Nat) (s : Stmt) (f : Ds) : Prop := Cz g X W n → PS X s (tS g W f)
def SB (g : Gd) (X : Cx) (W : WX) (n : Nat) (s : List Stmt) (f : Ds) : Prop := Cz g X W n → PSs X s (tS g W f)
theorem _root_.L2.PE.imp {X : Cx} {e : Expr} {t t' : TE} (h : PE X e t) (q : ∀ σ H Q, t' σ H Q → t σ H Q) : PE X e t' := ⟨fun pins s σ H Q I w => h.run pins s σ H Q I (q _ _ _ w)⟩
theorem _root_.L2.PT.imp {X : Cx} {e : Expr} {t t' : TT} (h : PT X e t) (q : ∀ σ H Q, t' σ H Q → t σ H Q) : PT X e t' := ⟨fun pins s σ H Q I w => h.run pins s σ H Q I (q _ _ _ w)⟩
theorem _root_.L2.PW.imp {X : Cx} {e : Expr} {t t' : TT} (h : PW X e t) (q : ∀ σ H Q, t' σ H Q → t σ H Q) : PW X e t' := ⟨fun wh pins s σ H Q I w => h.run wh pins s σ H Q I (q _ _ _ w)⟩
theorem _root_.L2.PA.imp {X : Cx} {e : List Expr} {t t' : TA} (h : PA X e t) (q : ∀ σ H Q, t' σ H Q → t σ H Q) : PA X e t' := ⟨fun pos pins s σ H Q I w => h.run pos pins s σ H Q I (q _ _ _ w)⟩
theorem _root_.L2.PS.imp {X : Cx} {e : Stmt} {t t' : TS} (h : PS X e t) (q : ∀ D σ H, t' D σ H → t D σ H) : PS X e t' := ⟨fun pins s σ H D I w => h.run pins s σ H D I (q _ _ _ w)⟩
theorem _root_.L2.PSs.imp {X : Cx} {e : List Stmt} {t t' : TS} (h : PSs X e t) (q : ∀ D σ H, t' D σ H → t D σ H) : PSs X e t' := ⟨fun pins s σ H D I w => h.run pins s σ H D I (q _ _ _ w)⟩
end Wr
set_option Elab.async false
set_option linter.all false
set_option maxRecDepth 100000
set_option maxHeartbeats 4000000
set_option autoImplicit false
namespace Wr
open PySem PySem.Spec PyProof.Rows L2
section
variable {g : Gd} {W : WX} {σ : L2.St} {H : Hp} {ρ : List Addr} {s : Sg} {hp : Hs}
abbrev EW (W : WX) (σ : L2.St) : XK := fun c d H' => W c d σ H'
theorem bE {f : De} {k : Va → Hs → Rs Va} {Q : VK} {T : V → Hp → Prop} (h : PoE g ρ H ((f s hp).bind k) Q (EW W σ)) (R : Rh g ρ H hp) (L : Rsl g ρ H s σ)
    (hk : ∀ v h ρ1 H1 x, Sp1 ρ H ρ1 H1 → Rh g ρ1 H1 h → Rv g ρ1 H1 v x → Rsl g ρ1 H1 s σ → PoE g ρ1 H1 (k v h) Q (EW W σ) → T x H1) : tE g W f σ H T := by
  refine ⟨ρ, s, hp, R, L, ?_⟩
  cases q : f s hp with
  | ok v h1 => rw [q] at h; exact fun ρ1 H1 x S R1 r => hk v h1 ρ1 H1 x S R1 r (L.step R S) (PoE.at h S)
  | ex c h1 => rw [q] at h; exact h
  | no => rw [q] at h; exact h
theorem bT {f : De} {k : Va → Hs → Rs Bool} {Q : Bool → Hp → Prop} {T : V → Hp → Prop} (h : PoT g ρ H ((f s hp).bind k) Q (EW W σ)) (R : Rh g ρ H hp) (L : Rsl g ρ H s σ)
    (hk : ∀ v h ρ1 H1 x, Sp1 ρ H ρ1 H1 → Rh g ρ1 H1 h → Rv g ρ1 H1 v x → Rsl g ρ1 H1 s σ → PoT g ρ1 H1 (k v h) Q (EW W σ) → T x H1) : tE g W f σ H T := by
  refine ⟨ρ, s, hp, R, L, ?_⟩
  cases q : f s hp with
  | ok v h1 => rw [q] at h; exact fun ρ1 H1 x S R1 r => hk v h1 ρ1 H1 x S R1 r (L.step R S) (PoT.at h S)
  | ex c h1 => rw [q] at h; exact h
  | no => rw [q] at h; exact h
theorem bA {f : De} {k : Va → Hs → Rs (List Va)} {Q : List V → Hp → Prop} {T : V → Hp → Prop} (h : PoA g ρ H ((f s hp).bind k) Q (EW W σ)) (R : Rh g ρ H hp) (L : Rsl g ρ H s σ)
    (hk : ∀ v h ρ1 H1 x, Sp1 ρ H ρ1 H1 → Rh g ρ1 H1 h → Rv g ρ1 H1 v x → Rsl g ρ1 H1 s σ → PoA g ρ1 H1 (k v h) Q (EW W σ) → T x H1) : tE g W f σ H T := by
  refine ⟨ρ, s, hp, R, L, ?_⟩
  cases q : f s hp with
  | ok v h1 => rw [q] at h; exact fun ρ1 H1 x S R1 r => hk v h1 ρ1 H1 x S R1 r (L.step R S) (PoA.at h S)
  | ex c h1 => rw [q] at h; exact h
  | no => rw [q] at h; exact h
theorem tBT {f : Dt} {k : Bool → Hs → Rs Bool} {Q : Bool → Hp → Prop} {T : Bool → Hp → Prop} (h : PoT g ρ H ((f s hp).bind k) Q (EW W σ)) (R : Rh g ρ H hp) (L : Rsl g ρ H s σ)
    (hk : ∀ v h ρ1 H1, Sp1 ρ H ρ1 H1 → Rh g ρ1 H1 h → Rsl g ρ1 H1 s σ → PoT g ρ1 H1 (k v h) Q (EW W σ) → T v H1) : tT g W f σ H T := by
  refine ⟨ρ, s, hp, R, L, ?_⟩
  cases q : f s hp with
  | ok v h1 => rw [q] at h; exact fun ρ1 H1 S R1 => hk v h1 ρ1 H1 S R1 (L.step R S) (PoT.at h S)
  | ex c h1 => rw [q] at h; exact h
  | no => rw [q] at h; exact h
/-- arguments first -/
theorem aBE {f : Da} {k : List Va → Hs → Rs Va} {Q : VK} {T : List V → Hp → Prop} (h : PoE g ρ H ((f s hp).bind k) Q (EW W σ)) (R : Rh g ρ H hp) (L : Rsl g ρ H s σ)
    (hk : ∀ v h ρ1 H1 x, Sp1 ρ H ρ1 H1 → Rh g ρ1 H1 h → Rvs g ρ1 H1 v x → Rsl g ρ1 H1 s σ → PoE g ρ1 H1 (k v h) Q (EW W σ) → T x H1) : tA g W f σ H T := by
  refine ⟨ρ, s, hp, R, L, ?_⟩
  cases q : f s hp with
  | ok v h1 => rw [q] at h; exact fun ρ1 H1 x S R1 r => hk v h1 ρ1 H1 x S R1 r (L.step R S) (PoE.at h S)
  | ex c h1 => rw [q] at h; exact h
  | no => rw [q] at h; exact h
theorem aBA {f : Da} {k : List Va → Hs → Rs (List Va)} {Q : List V → Hp → Prop} {T : List V → Hp → Prop} (h : PoA g ρ H ((f s hp).bind k) Q (EW W σ)) (R : Rh g ρ H hp) (L : Rsl g ρ H s σ)
    (hk : ∀ v h ρ1 H1 x, Sp1 ρ H ρ1 H1 → Rh g ρ1 H1 h → Rvs g ρ1 H1 v x → Rsl g ρ1 H1 s σ → PoA g ρ1 H1 (k v h) Q (EW W σ) → T x H1) : tA g W f σ H T := by
  refine ⟨ρ, s, hp, R, L, ?_⟩
  cases q : f s hp with
  | ok v h1 => rw [q] at h; exact fun ρ1 H1 x S R1 r => hk v h1 ρ1 H1 x S R1 r (L.step R S) (PoA.at h S)
  | ex c h1 => rw [q] at h; exact h
  | no => rw [q] at h; exact h
/-- .. in a statement -/
def Rs.bindS {α : Type} (r : Rs α) (s : Sg) (k : α → Hs → RS) : RS := match r with
  | .ok a h => k a h
  | .ex c h => .ex c s h
  | .no => .no
theorem bS {f : De} {k : Va → Hs → RS} {D : Ends} {T : V → Hp → Prop} (h : PoS g ρ H ((f s hp).bindS s k) D W) (R : Rh g ρ H hp) (L : Rsl g ρ H s σ)
    (hk : ∀ v h ρ1 H1 x, Sp1 ρ H ρ1 H1 → Rh g ρ1 H1 h → Rv g ρ1 H1 v x → Rsl g ρ1 H1 s σ → PoS g ρ1 H1 (k v h) D W → T x H1) : tE g W f σ H T := by
  refine ⟨ρ, s, hp, R, L, ?_⟩
  cases q : f s hp with
  | ok v h1 => rw [q] at h; exact fun ρ1 H1 x S R1 r => hk v h1 ρ1 H1 x S R1 r (L.step R S) (PoS.at h S)
  | ex c h1 => rw [q] at h; exact fun ρ1 H1 S R1 => h ρ1 H1 σ S R1 (L.step R S)
  | no => rw [q] at h; exact h
theorem tBS {f : Dt} {k : Bool → Hs → RS} {D : Ends} {T : Bool → Hp → Prop} (h : PoS g ρ H ((f s hp).bindS s k) D W) (R : Rh g ρ H hp) (L : Rsl g ρ H s σ)
    (hk : ∀ v h ρ1 H1, Sp1 ρ H ρ1 H1 → Rh g ρ1 H1 h → Rsl g ρ1 H1 s σ → PoS g ρ1 H1 (k v h) D W → T v H1) : tT g W f σ H T := by
  refine ⟨ρ, s, hp, R, L, ?_⟩
  cases q : f s hp with
  | ok v h1 => rw [q] at h; exact fun ρ1 H1 S R1 => hk v h1 ρ1 H1 S R1 (L.step R S) (PoS.at h S)
  | ex c h1 => rw [q] at h; exact fun ρ1 H1 S R1 => h ρ1 H1 σ S R1 (L.step R S)
  | no => rw [q] at h; exact h
end
section
variable {g : Gd} {X : Cx} {W : WX} {n : Nat}
def dVar (i : Nat) : De := fun s h => match s[i]? with
  | some (some v) => .ok v h
  | _ => .no
def dC (v : Va) : De := fun _ h => .ok v h
theorem e_var (i : Nat) {x : Str} {pos : Pos} (hN : X.N[i]? = some x := by rfl) (hv : Vis X.env.scope x := by first | exact Or.inl rfl | exact Or.inr (Or.inl rfl) | exact Or.inr (Or.inr rfl)) (hd : (x == ("__debug__" : Str)) = false := by decide)
    (hcd : (x == ("__classdict__" : Str)) = false := by decide) : SE g X W n (.Name x pos) (dVar i) := by
  intro C
  refine (pe_var hN hv hd hcd).imp ?_
  rintro σ H Q ⟨ρ, s, hp, R, L, h⟩
  unfold dVar at h
  split at h
  · rename_i v q
    obtain ⟨x, e, r⟩ := L.at_ i v q
    exact ⟨x, e, h ρ H x (.refl _ _) R r⟩
  · exact h.elim
/-- what is a constant at every heap -/
def Steady (g : Gd) (v : Va) (x : V) : Prop := ∀ ρ H, Rv g ρ H v x
theorem e_tC {e : Expr} {v : Va} {x : V} (hp : PE X e (tC x)) (hs : Steady g v x) : PE X e (tE g W (dC v)) := by
  refine hp.imp ?_
  rintro σ H Q ⟨ρ, s, hp, R, L, h⟩
  exact h ρ H x (.refl _ _) R (hs ρ H)
theorem e_int {i : Int} {j : Nat} {pos : Pos} : SE g X W n (.Constant (.int i) j pos) (dC (.int i)) := fun _ => e_tC pe_int fun _ _ => by simp only [Rv]
theorem e_bl {b : Bool} {j : Nat} {pos : Pos} : SE g X W n (.Constant (.bool b) j pos) (dC (.bl b)) := fun _ => e_tC pe_bl fun _ _ => by simp only [Rv]
/-- a module's constant -/
theorem e_glob {x : Str} {v : Va} {y : V} {u : Value} {pos : Pos} (hm : X.mg x = some u) (r : RelV y u) (hs : Steady g v y) (hg : Gl X x := by rfl) (hd : (x == ("__debug__" : Str)) = false := by decide) : SE g X W n (.Name x pos) (dC v) :=
  fun _ => e_tC (pe_glob hg hm r hd) hs
theorem e_bltn {x : Str} {T : String} {u : Value} {pos : Pos} (hm : X.mg x = none) (hv : bootBuiltins x = some u) (r : RelV (.ty T) u) (hg : Gl X x := by rfl) (hn : x ≠ "__name__" := by decide) (hd : (x == ("__debug__" : Str)) = false := by decide) :
    SE g X W n (.Name x pos) (dC (.ty T)) := fun _ => e_tC (pe_bltn hg hm hv r hn hd) fun _ _ => by simp only [Rv]
def aNil : Da := fun _ h => .ok [] h
def aCons (f : De) (r : Da) : Da := fun s h => (f s h).bind fun x h1 => (r s h1).bind fun xs h2 => .ok (x :: xs) h2
theorem a_nil : SA g X W n [] aNil := fun _ => pa_nil.imp fun σ H Q ⟨ρ, s, hp, R, L, h⟩ => h ρ H [] (.refl _ _) R Rvs.nil
theorem a_cons {e : Expr} {es : List Expr} {f : De} {r : Da} (he : SE g X W n e f) (hr : SA g X W n es r) (hs : starEach (e :: es) X.env = (false, eval e X.env) :: starEach es X.env := by rfl) : SA g X W n (e :: es) (aCons f r) := by
  intro C
  refine (pa_cons (he C) (hr C) hs).imp ?_
  rintro σ H Q ⟨ρ, s, hp, R, L, h⟩
  refine bA h R L fun v h1 ρ1 H1 x S1 R1 r1 L1 p1 => ?_
  refine aBA p1 R1 L1 fun vs h2 ρ2 H2 xs S2 R2 r2 L2 p2 => ?_
  exact p2 ρ2 H2 (x :: xs) (.refl _ _) R2 (Rvs.cons (Rv.step R1 S2 _ _ r1) r2)
abbrev tupO (us : List Value) : Obj := { cls := .type "tuple", data := .seq us.toArray }
/-- a new tuple is laid -/
theorem laidN {pins : List (Addr × Obj)} {σ : L2.St} {H : Hp} {s : Shared} {h' : Heap} {p : Addr} {vs : List V} {us : List Value} {t' : Nat} (I : Inv X pins σ H s) (k : ∀ b u, s.heap.get? b = some u → h'.get? b = some u) (hp : s.heap.objs.size ≤ p)
    (e : h'.get? p = some (tupO us)) (r : Vals vs us) (hz : vs.length ≤ sizeLine) : Inv X pins σ (upd H p (.frz (tupO us) (.tup vs))) { s with heap := h', toks := t' } :=
  I.laid k hp ⟨e, hz, us, r, ⟨_, e, rfl, 0, rfl⟩⟩
/-- what a new tuple means to us -/
theorem new_tup {ρ : List Addr} {H : Hp} {hp : Hs} {xs : List Va} {vs : List V} {us : List Value} {p : Addr} (R : Rh g ρ H hp) (hn : H p = none) (r : Rvs g ρ H xs vs) :
    Sp1 ρ H ρ (upd H p (.frz (tupO us) (.tup vs))) ∧ Rh g ρ (upd H p (.frz (tupO us) (.tup vs))) hp ∧ Rv g ρ (upd H p (.frz (tupO us) (.tup vs))) (.tup xs) (.ref p) := by
  obtain ⟨S, R'⟩ := R.laid (u := .frz (tupO us) (.tup vs)) hn
  refine ⟨S, R', ?_⟩
  simp only [Rv]
  exact ⟨p, vs, rfl, .inl ⟨_, upd_same, rfl⟩, Rvs.step R S _ _ r⟩
def tTupN (t : TA) : TE := fun σ H Q => t σ H fun xs H1 => xs.length ≤ sizeLine ∧ ∀ p us, H1 p = none → Q (.ref p) (upd H1 p (.frz (tupO us) (.tup xs)))
theorem pe_tupN {es : List Expr} {t : TA} {x1 : Nat} {pos : Pos} (h : PA X es t) : PE X (.Tuple es x1 pos) (tTupN t) := by
  refine ⟨fun pins s σ H Q I hq => ?_⟩
  refine wpAny_Tuple_spliced (thn (h.run pos pins s σ H _ I hq) fun us s1 ⟨xs, H1, I1, r, z, q⟩ => ⟨by rw [← r.length]; exact z, ?_⟩)
  have hf : H1 s1.heap.objs.size = none := I1.hok.fresh (Nat.le_refl _)
  exact ⟨.ref s1.heap.objs.size, _, laidN (t' := s1.toks) I1 (fun b u e => Heap.get?_push_of_some _ e) (Nat.le_refl _) (Heap.get?_push_size _ rfl) r z, rfl, q _ us hf⟩
def okN (n : Nat) : Bool := decide (n ≤ 16777216)
theorem okN_le {n : Nat} (h : okN n = true) : n ≤ sizeLine := by
  have := of_decide_eq_true h
  rw [sizeLine_eq]; exact this
def dTup (f : Da) : De := fun s h => (f s h).bind fun xs h1 => if okN xs.length then .ok (.tup xs) h1 else .no
theorem e_tup {es : List Expr} {f : Da} {x1 : Nat} {pos : Pos} (he : SA g X W n es f) : SE g X W n (.Tuple es x1 pos) (dTup f) := by
  intro C
  refine (pe_tupN (he C)).imp ?_
  rintro σ H Q ⟨ρ, s, hp, R, L, h⟩
  refine aBE h R L fun vs h2 ρ2 H2 xs S2 R2 r2 L2 p2 => ?_
  by_cases hz : okN vs.length = true
  · rw [if_pos hz] at p2
    refine ⟨by rw [← r2.length]; exact okN_le hz, fun p us hn => ?_⟩
    obtain ⟨S3, R3, r3⟩ := new_tup (us := us) R2 hn r2
    exact p2 _ _ _ S3 R3 r3
  · rw [if_neg hz] at p2; exact p2.elim
/-- a new list, dict .. of ours -/
theorem new_lst {ρ : List Addr} {H : Hp} {hp : Hs} {xs : List Va} {vs : List V} {p : Addr} (R : Rh g ρ H hp) (hn : H p = none) (r : Rvs g ρ H xs vs) :
    Sp1 ρ H (ρ ++ [p]) (upd H p (.lst vs)) ∧ Rh g (ρ ++ [p]) (upd H p (.lst vs)) (hp ++ [.lst xs]) ∧ Rv g (ρ ++ [p]) (upd H p (.lst vs)) (.ref hp.length) (.ref p) := by
  obtain ⟨S, R'⟩ := R.new (u := .lst vs) (o := .lst xs) hn fun S => ⟨vs, upd_same, Rvs.step R S _ _ r⟩
  refine ⟨S, R', ?_⟩
  simp only [Rv]
  exact ⟨p, by rw [← R.len]; simp, rfl⟩
def mkL (xs : List Va) (h : Hs) : Rs Va := if okN xs.length then .ok (.ref h.length) (h ++ [.lst xs]) else .no
def dLst (f : Da) : De := fun s h => (f s h).bind mkL
theorem e_lst {es : List Expr} {f : Da} {pos : Pos} (he : SA g X W n es f) : SE g X W n (.List es pos) (dLst f) := by
  intro C
  refine (pe_lst (he C)).imp ?_
  rintro σ H Q ⟨ρ, s, hp, R, L, h⟩
  refine aBE h R L fun vs h2 ρ2 H2 xs S2 R2 r2 L2 p2 => ?_
  unfold mkL at p2
  by_cases hz : okN vs.length = true
  · rw [if_pos hz] at p2
    refine ⟨by rw [← r2.length]; exact okN_le hz, fun p hn => ?_⟩
    obtain ⟨S3, R3, r3⟩ := new_lst R2 hn r2
    exact p2 _ _ _ S3 R3 r3
  · rw [if_neg hz] at p2; exact p2.elim
abbrev K2 := Va → Va → Hs → Option (Va × Hs)
def liftO (o : Option (Va × Hs)) : Rs Va := match o with
  | some (v, h) => .ok v h
  | none => .no
/-- k tells what the rule r does -/
def P2 (g : Gd) (r : R2) (k : K2) : Prop := ∀ (ρ : List Addr) (H : Hp) (hp : Hs) (x y : Va) (vx vy : V) (v : Va) (h' : Hs) (Q : VK), Rh g ρ H hp → Rv g ρ H x vx → Rv g ρ H y vy → k x y hp = some (v, h') →
  (∀ ρ' H' z, Sp1 ρ H ρ' H' → Rh g ρ' H' h' → Rv g ρ' H' v z → Q z H') → r vx vy H Q
def dOp (k : K2) (fa fb : De) : De := fun s h => (fa s h).bind fun x h1 => (fb s h1).bind fun y h2 => liftO (k x y h2)
theorem op_imp {r : R2} {k : K2} (pk : P2 g r k) {fa fb : De} {σ : L2.St} {H : Hp} {Q : VK} (h : tE g W (dOp k fa fb) σ H Q) : tOp r (tE g W fa) (tE g W fb) σ H Q := by
  obtain ⟨ρ, s, hp, R, L, h⟩ := h
  refine bE h R L fun x h1 ρ1 H1 vx S1 R1 r1 L1 p1 => ?_
  refine bE p1 R1 L1 fun y h2 ρ2 H2 vy S2 R2 r2 L2 p2 => ?_
  cases q : k x y h2 with
  | none => rw [q] at p2; exact p2.elim
  | some w =>
    obtain ⟨v, h3⟩ := w
    rw [q] at p2
    exact pk ρ2 H2 h2 x y vx vy v h3 Q R2 (Rv.step R1 S2 _ _ r1) r2 q fun ρ3 H3 z S3 R3 r3 => p2 ρ3 H3 z S3 R3 r3
theorem e_op {op : Operator} {a b : Expr} {fa fb : De} {r : R2} {k : K2} {pos : Pos} (ho : ∀ X : Cx, X.K = g.K → OpR X (binaryOp op) r) (pk : P2 g r k) (ha : SE g X W n a fa) (hb : SE g X W n b fb) : SE g X W n (.BinOp a op b pos) (dOp k fa fb) :=
  fun C => (pe_op (ho X C.K) (ha C) (hb C)).imp fun _ _ _ h => op_imp pk h
/-- comparisons: the stack's room and calm are known -/
abbrev OpC (g : Gd) (op : CmpOp) (r : R2) : Prop := ∀ X : Cx, X.K = g.K → X.A.units + 100 < cLine → OpR X (compareOp op) r
theorem e_cmp {op : CmpOp} {a b : Expr} {fa fb : De} {r : R2} {k : K2} {pos : Pos} (ho : OpC g op r) (pk : P2 g r k) (ha : SE g X W n a fa) (hb : SE g X W n b fb) (hm : behindInMarks op b = false := by first | exact nomark _ | rfl) :
    SE g X W n (.Compare a [op] [b] pos) (dOp k fa fb) :=
  fun C => (pe_cmpR (ho X C.K C.units) (ha C) (hb C) hm).imp fun _ _ _ h => op_imp pk h
/-- .. as a test -/
def isB (v : Va) (h : Hs) : Rs Bool := match v with
  | .bl b => .ok b h
  | _ => .no
def dTest (f : De) : Dt := fun s h => (f s h).bind isB
theorem test_imp {f : De} {σ : L2.St} {H : Hp} {Q : Bool → Hp → Prop} (h : tT g W (dTest f) σ H Q) : tE g W f σ H (fun x H' => ∃ k, x = .bl k ∧ Q k H') := by
  obtain ⟨ρ, s, hp, R, L, h⟩ := h
  refine bT h R L fun x h1 ρ1 H1 vx S1 R1 r1 L1 p1 => ?_
  cases x with
  | bl b =>
    simp only [Rv] at r1
    exact ⟨b, r1, p1 ρ1 H1 (.refl _ _) R1⟩
  | _ => exact p1.elim
theorem t_cmp {op : CmpOp} {a b : Expr} {fa fb : De} {r : R2} {k : K2} {pos : Pos} (ho : OpC g op r) (pk : P2 g r k) (ha : SE g X W n a fa) (hb : SE g X W n b fb) (hm : behindInMarks op b = false := by first | exact nomark _ | rfl) :
    ST g X W n (.Compare a [op] [b] pos) (dTest (dOp k fa fb)) :=
  fun C => (pt_cmpR (ho X C.K C.units) (ha C) (hb C) hm).imp fun _ _ _ h => op_imp pk (test_imp h)
theorem t_val {e : Expr} {f : De} (h : SE g X W n e f) (he : ∀ whole, isTrue e X.env whole = (do let v ← whole; standAt e.pos; holding [v] (truthy v)) := by intro _; rfl) : ST g X W n e (dTest f) :=
  fun C => (pt_val (h C) he).imp fun _ _ _ q => test_imp q
/-- a op b op' c -/
def dChain (k k' : K2) (fa fb fc : De) : De := fun s h => (fa s h).bind fun x h1 => (fb s h1).bind fun y h2 => (liftO (k x y h2)).bind fun z h3 => match z with
  | .bl true => (fc s h3).bind fun w h4 => liftO (k' y w h4)
  | .bl false => .ok (.bl false) h3
  | _ => .no
theorem chain_imp {r r' : R2} {k k' : K2} (pk : P2 g r k) (pk' : P2 g r' k') {fa fb fc : De} {σ : L2.St} {H : Hp} {Q : VK} (h : tE g W (dChain k k' fa fb fc) σ H Q) :
    tChain r r' (tE g W fa) (tE g W fb) (tE g W fc) σ H Q := by
  obtain ⟨ρ, s, hp, R, L, h⟩ := h
  refine bE h R L fun x h1 ρ1 H1 vx S1 R1 r1 L1 p1 => ?_
  refine bE p1 R1 L1 fun y h2 ρ2 H2 vy S2 R2 r2 L2 p2 => ?_
  cases q : k x y h2 with
  | none => rw [q] at p2; exact p2.elim
  | some w =>
    obtain ⟨v, h3⟩ := w
    rw [q] at p2
    refine pk ρ2 H2 h2 x y vx vy v h3 _ R2 (Rv.step R1 S2 _ _ r1) r2 q fun ρ3 H3 z S3 R3 r3 => ?_
    have p3 := PoE.at p2 S3
    cases v with
    | bl b =>
      simp only [Rv] at r3
      refine ⟨b, r3, ?_⟩
      cases b with
      | true =>
        show tE g W fc σ H3 _
        refine bE p3 R3 (L2.step R2 S3) fun w h4 ρ4 H4 vw S4 R4 r4 L4 p4 => ?_
        cases q' : k' y w h4 with
        | none => rw [q'] at p4; exact p4.elim
        | some w' =>
          obtain ⟨v', h5⟩ := w'
          rw [q'] at p4
          exact pk' ρ4 H4 h4 y w vy vw v' h5 Q R4 (Rv.step R3 S4 _ _ (Rv.step R2 S3 _ _ r2)) r4 q' fun ρ5 H5 z S5 R5 r5 => p4 ρ5 H5 z S5 R5 r5
      | false =>
        show Q (.bl false) H3
        exact p3 ρ3 H3 _ (.refl _ _) R3 (by simp only [Rv])
    | _ => exact p3.elim
end
end Wr
set_option Elab.async false
set_option linter.all false
set_option maxRecDepth 100000
set_option maxHeartbeats 4000000
set_option autoImplicit false
namespace Wr
open PySem PySem.Spec PyProof.Rows L2
def idx : List Nat → Nat → Option Nat
  | [], _ => none
  | x :: t, j => if x == j then some 0 else (idx t j).map (· + 1)
theorem idx_get : ∀ {m : List Nat} {j i : Nat}, idx m j = some i → m[i]? = some j
  | [], _, _, h => by cases h
  | x :: t, j, i, h => by
    unfold idx at h
    by_cases e : (x == j) = true
    · rw [if_pos e] at h; cases h; simp at e; subst e; rfl
    · rw [if_neg e] at h
      obtain ⟨k, hk, rfl⟩ := Option.map_eq_some_iff.mp h
      simpa using idx_get hk
theorem idx_of : ∀ {m : List Nat} {j i : Nat}, m.Nodup → m[i]? = some j → idx m j = some i
  | [], _, _, _, h => by simp at h
  | x :: t, j, 0, _, h => by simp at h; subst h; simp [idx]
  | x :: t, j, i + 1, hn, h => by
    have hn' := List.nodup_cons.mp hn
    have h' : t[i]? = some j := by simpa using h
    have hne : (x == j) = false := by
      refine beq_eq_false_iff_ne.mpr fun e => hn'.1 ?_
      rw [e]; exact List.mem_of_getElem? h'
    unfold idx
    rw [hne]
    simp [idx_of hn'.2 h']
theorem idx_none {m : List Nat} {j : Nat} (hn : m.Nodup) (h : idx m j = none) : j ∉ m := fun hm => by
  obtain ⟨i, hi, e⟩ := List.getElem_of_mem hm
  rw [idx_of hn (show m[i]? = some j by rw [List.getElem?_eq_getElem hi, e])] at h
  cases h
def nodupB : List Nat → Bool
  | [] => true
  | x :: t => !(t.contains x) && nodupB t
theorem nodupB_ok : ∀ {m : List Nat}, nodupB m = true → m.Nodup
  | [], _ => List.nodup_nil
  | x :: t, h => by
    unfold nodupB at h
    rw [Bool.and_eq_true, Bool.not_eq_true'] at h
    refine List.nodup_cons.mpr ⟨fun hm => ?_, nodupB_ok h.2⟩
    have := List.contains_iff_mem.mpr hm
    rw [h.1] at this; cases this
mutual
def ren (f : Nat → Option Nat) : Va → Option Va
  | .ref i => (f i).map .ref
  | .tup xs => (rens f xs).map .tup
  | .non => some .non
  | .bl b => some (.bl b)
  | .int i => some (.int i)
  | .str x => some (.str x)
  | .ty n => some (.ty n)
  | .gl n => some (.gl n)
  | .scr => some .scr
  | .exc c => some (.exc c)
def rens (f : Nat → Option Nat) : List Va → Option (List Va)
  | [] => some []
  | x :: xs => match ren f x with
    | some a => match rens f xs with
      | some b => some (a :: b)
      | none => none
    | none => none
end
def renK {κ : Type} (f : Nat → Option Nat) : List (κ × Va) → Option (List (κ × Va))
  | [] => some []
  | (k, x) :: xs => match ren f x with
    | some a => match renK f xs with
      | some b => some ((k, a) :: b)
      | none => none
    | none => none
def renO (f : Nat → Option Nat) : Ob → Option Ob
  | .lst xs => (rens f xs).map .lst
  | .dK kvs => (renK f kvs).map .dK
  | .dT kvs => (renK f kvs).map .dT
  | .dU kvs => (renK f kvs).map .dU
  | .ins c fs => (renK f fs).map (.ins c)
  | .dF kvs => (renK f kvs).map .dF
section
variable {g : Gd} {ρ ρ' : List Addr} {H : Hp} {f : Nat → Option Nat}
def Moves (f : Nat → Option Nat) (ρ ρ' : List Addr) : Prop := ∀ (i j : Nat) (a : Addr), f i = some j → ρ[i]? = some a → ρ'[j]? = some a
mutual
theorem ren_ok (hf : Moves f ρ ρ') : ∀ (x : Va) (v : V) (x' : Va), Rv g ρ H x v → ren f x = some x' → Rv g ρ' H x' v
  | .ref i, v, x', h, e => by
    unfold ren at e
    obtain ⟨j, hj, rfl⟩ := Option.map_eq_some_iff.mp e
    simp only [Rv] at h ⊢
    obtain ⟨a, h1, h2⟩ := h
    exact ⟨a, hf i j a hj h1, h2⟩
  | .tup xs, v, x', h, e => by
    unfold ren at e
    obtain ⟨ys, hj, rfl⟩ := Option.map_eq_some_iff.mp e
    simp only [Rv] at h ⊢
    obtain ⟨a, vs, h1, h2, h3⟩ := h
    exact ⟨a, vs, h1, h2, rens_ok hf xs vs ys h3 hj⟩
  | .non, v, x', h, e => by unfold ren at e; cases e; simpa only [Rv] using h
  | .bl _, v, x', h, e => by unfold ren at e; cases e; simpa only [Rv] using h
  | .int _, v, x', h, e => by unfold ren at e; cases e; simpa only [Rv] using h
  | .str _, v, x', h, e => by unfold ren at e; cases e; simpa only [Rv] using h
  | .ty _, v, x', h, e => by unfold ren at e; cases e; simpa only [Rv] using h
  | .gl _, v, x', h, e => by unfold ren at e; cases e; simpa only [Rv] using h
  | .scr, v, x', h, e => by unfold ren at e; cases e; simpa only [Rv] using h
  | .exc _, v, x', h, e => by unfold ren at e; cases e; simpa only [Rv] using h
theorem rens_ok (hf : Moves f ρ ρ') : ∀ (x : List Va) (v : List V) (x' : List Va), Rvs g ρ H x v → rens f x = some x' → Rvs g ρ' H x' v
  | [], v, x', h, e => by unfold rens at e; cases e; simpa only [Rvs] using h
  | x :: xs, v, x', h, e => by
    unfold rens at e
    split at e
    · rename_i a ha
      split at e
      · rename_i b hb
        cases e
        simp only [Rvs] at h ⊢
        obtain ⟨w, r, h1, h2, h3⟩ := h
        exact ⟨w, r, h1, ren_ok hf x w a h2 ha, rens_ok hf xs r b h3 hb⟩
      · cases e
    · cases e
end
theorem renK_ok {κ : Type} (hf : Moves f ρ ρ') : ∀ (x : List (κ × Va)) (v : List (κ × V)) (x' : List (κ × Va)), Rkv g ρ H x v → renK f x = some x' → Rkv g ρ' H x' v
  | [], v, x', h, e => by unfold renK at e; cases e; exact h
  | (k, x) :: xs, v, x', h, e => by
    unfold renK at e
    split at e
    · rename_i a ha
      split at e
      · rename_i b hb
        cases e
        obtain ⟨w, r, h1, h2, h3⟩ := h
        exact ⟨w, r, h1, ren_ok hf x w a h2 ha, renK_ok hf xs r b h3 hb⟩
      · cases e
    · cases e
theorem renO_ok (hf : Moves f ρ ρ') {a : Addr} {o o' : Ob} (h : Ro g ρ H a o) (e : renO f o = some o') : Ro g ρ' H a o' := by
  cases o with
  | lst xs =>
    obtain ⟨ys, hy, rfl⟩ := Option.map_eq_some_iff.mp e
    obtain ⟨vs, h1, h2⟩ := h
    exact ⟨vs, h1, rens_ok hf _ _ _ h2 hy⟩
  | dK xs =>
    obtain ⟨ys, hy, rfl⟩ := Option.map_eq_some_iff.mp e
    obtain ⟨vs, h1, h2⟩ := h
    exact ⟨vs, h1, renK_ok hf _ _ _ h2 hy⟩
  | dT xs =>
    obtain ⟨ys, hy, rfl⟩ := Option.map_eq_some_iff.mp e
    obtain ⟨vs, h1, h2⟩ := h
    exact ⟨vs, h1, renK_ok hf _ _ _ h2 hy⟩
  | dU xs =>
    obtain ⟨ys, hy, rfl⟩ := Option.map_eq_some_iff.mp e
    obtain ⟨vs, h1, h2⟩ := h
    exact ⟨vs, h1, renK_ok hf _ _ _ h2 hy⟩
  | ins c xs =>
    obtain ⟨ys, hy, rfl⟩ := Option.map_eq_some_iff.mp e
    obtain ⟨dx, vs, h1, h2⟩ := h
    exact ⟨dx, vs, h1, renK_ok hf _ _ _ h2 hy⟩
  | dF xs =>
    obtain ⟨ys, hy, rfl⟩ := Option.map_eq_some_iff.mp e
    obtain ⟨dx, vs, h1, h2⟩ := h
    exact ⟨dx, vs, h1, renK_ok hf _ _ _ h2 hy⟩
end
/-- the objects at m -/
def selO (m : List Nat) (hp : Hs) : List Nat → Option Hs
  | [] => some []
  | i :: t => match hp[i]? with
    | some o => match renO (idx m) o with
      | some a => match selO m hp t with
        | some b => some (a :: b)
        | none => none
      | none => none
    | none => none
theorem selO_get {m : List Nat} {hp : Hs} : ∀ {t : List Nat} {h' : Hs}, selO m hp t = some h' → h'.length = t.length ∧ ∀ (k i : Nat), t[k]? = some i → ∃ o o', hp[i]? = some o ∧ h'[k]? = some o' ∧ renO (idx m) o = some o'
  | [], h', e => by unfold selO at e; cases e; exact ⟨rfl, fun k i h => by simp at h⟩
  | j :: t, h', e => by
    unfold selO at e
    split at e
    · rename_i o ho
      split at e
      · rename_i a ha
        split at e
        · rename_i b hb
          cases e
          obtain ⟨hl, hg⟩ := selO_get hb
          refine ⟨by simp [hl], fun k i h => ?_⟩
          cases k with
          | zero => simp at h; subst h; exact ⟨o, a, ho, rfl, ha⟩
          | succ k => simpa using hg k i (by simpa using h)
        · cases e
      · cases e
    · cases e
def pickA (ρ : List Addr) (m : List Nat) : List Addr := m.map fun i => ρ.getD i 0
theorem pickA_get {ρ : List Addr} {m : List Nat} {k i : Nat} {a : Addr} (h : m[k]? = some i) (ha : ρ[i]? = some a) : (pickA ρ m)[k]? = some a := by
  unfold pickA
  rw [List.getElem?_map, h]
  simp [List.getD, ha]
theorem sel_ok {g : Gd} {ρ : List Addr} {H : Hp} {hp h' : Hs} {m : List Nat} (R : Rh g ρ H hp) (hn : m.Nodup) (e : selO m hp m = some h') :
    Rh g (pickA ρ m) H h' ∧ Moves (idx m) ρ (pickA ρ m) ∧ (∀ b ∈ pickA ρ m, b ∈ ρ) ∧ (∀ (k i : Nat), m[k]? = some i → ∃ a, ρ[i]? = some a ∧ (pickA ρ m)[k]? = some a) := by
  obtain ⟨hl, hg⟩ := selO_get e
  have at_ : ∀ (k i : Nat), m[k]? = some i → ∃ a, ρ[i]? = some a ∧ (pickA ρ m)[k]? = some a := fun k i h => by
    obtain ⟨o, o', h1, h2, h3⟩ := hg k i h
    have hi : i < ρ.length := by rw [R.len]; exact (List.getElem?_eq_some_iff.mp h1).1
    exact ⟨ρ[i], List.getElem?_eq_getElem hi, pickA_get h (List.getElem?_eq_getElem hi)⟩
  have mv : Moves (idx m) ρ (pickA ρ m) := fun i j a h1 h2 => pickA_get (idx_get h1) h2
  have back : ∀ (k : Nat) (a : Addr), (pickA ρ m)[k]? = some a → ∃ i, m[k]? = some i ∧ ρ[i]? = some a := fun k a h => by
    have hk : k < m.length := by
      have := (List.getElem?_eq_some_iff.mp h).1
      simpa [pickA] using this
    obtain ⟨b, h1, h2⟩ := at_ k m[k] (List.getElem?_eq_getElem hk)
    rw [h] at h2; cases h2
    exact ⟨m[k], List.getElem?_eq_getElem hk, h1⟩
  refine ⟨⟨by simp [pickA, hl], ?_, R.tab, fun k a o' h1 h2 => ?_⟩, mv, fun b hb => ?_, at_⟩
  · rw [List.nodup_iff_pairwise_ne, List.pairwise_iff_getElem]
    intro i j hi hj hij e2
    obtain ⟨i', a1, b1⟩ := back i _ (List.getElem?_eq_getElem hi)
    obtain ⟨j', a2, b2⟩ := back j _ (List.getElem?_eq_getElem hj)
    rw [e2] at b1
    have e3 := nd_ix R.nd b1 b2
    subst e3
    have := idx_of hn a1
    rw [idx_of hn a2] at this
    cases this
    exact Nat.lt_irrefl _ hij
  · obtain ⟨i, e1, e2⟩ := back k a h1
    obtain ⟨o, o2, h3, h4, h5⟩ := hg k i e1
    rw [h2] at h4; cases h4
    exact renO_ok mv (R.obj i a o e2 h3) h5
  · obtain ⟨k, hk, e2⟩ := List.getElem_of_mem hb
    obtain ⟨i, _, e3⟩ := back k b (by rw [List.getElem?_eq_getElem hk, e2])
    exact List.mem_of_getElem? e3
mutual
def refsV : Va → List Nat
  | .ref i => [i]
  | .tup xs => refsVs xs
  | .non => []
  | .bl _ => []
  | .int _ => []
  | .str _ => []
  | .ty _ => []
  | .gl _ => []
  | .scr => []
  | .exc _ => []
def refsVs : List Va → List Nat
  | [] => []
  | x :: xs => refsV x ++ refsVs xs
end
def refsK {κ : Type} : List (κ × Va) → List Nat
  | [] => []
  | (_, x) :: xs => refsV x ++ refsK xs
def refsO : Ob → List Nat
  | .lst xs => refsVs xs
  | .dK kvs => refsK kvs
  | .dT kvs => refsK kvs
  | .dU kvs => refsK kvs
  | .ins _ fs => refsK fs
  | .dF kvs => refsK kvs
def reach : Nat → Hs → List Nat → List Nat → List Nat
  | 0, _, _, acc => acc
  | _ + 1, _, [], acc => acc
  | n + 1, hp, i :: t, acc => if acc.contains i then reach n hp t acc else match hp[i]? with
    | some o => reach n hp (refsO o ++ t) (acc ++ [i])
    | none => reach n hp t acc
def bkI (m : List Nat) (n i : Nat) : Option Nat := if i < m.length then m[i]? else some (n + (i - m.length))
def mix (m : List Nat) (os : Hs) : Nat → Hs → Hs
  | _, [] => []
  | j, o :: t => (match idx m j with
    | some i => os.getD i o
    | none => o) :: mix m os (j + 1) t
def renOs (f : Nat → Option Nat) : Hs → Option Hs
  | [] => some []
  | o :: t => match renO f o with
    | some a => match renOs f t with
      | some b => some (a :: b)
      | none => none
    | none => none
theorem renOs_get {f : Nat → Option Nat} : ∀ {h h' : Hs}, renOs f h = some h' → h'.length = h.length ∧ ∀ (k : Nat) (o : Ob), h[k]? = some o → ∃ o', h'[k]? = some o' ∧ renO f o = some o'
  | [], h', e => by unfold renOs at e; cases e; exact ⟨rfl, fun k o h => by simp at h⟩
  | x :: t, h', e => by
    unfold renOs at e
    split at e
    · rename_i a ha
      split at e
      · rename_i b hb
        cases e
        obtain ⟨hl, hg⟩ := renOs_get hb
        refine ⟨by simp [hl], fun k o h => ?_⟩
        cases k with
        | zero => simp at h; subst h; exact ⟨a, rfl, ha⟩
        | succ k => simpa using hg k o (by simpa using h)
      · cases e
    · cases e
theorem mix_len (m : List Nat) (os : Hs) : ∀ (hp : Hs) (j : Nat), (mix m os j hp).length = hp.length
  | [], _ => rfl
  | _ :: t, j => by simp [mix, mix_len m os t (j + 1)]
theorem mix_get (m : List Nat) (os : Hs) : ∀ (hp : Hs) (j k : Nat), (mix m os j hp)[k]? = hp[k]?.map fun o => match idx m (j + k) with
    | some i => os.getD i o
    | none => o
  | [], _, _ => by simp [mix]
  | o :: t, j, 0 => by simp [mix]
  | o :: t, j, k + 1 => by
    have := mix_get m os t (j + 1) k
    simp only [mix, List.getElem?_cons_succ, this]
    rw [show j + 1 + k = j + (k + 1) by omega]
def backH (m : List Nat) (hp h1 : Hs) : Option Hs := match renOs (bkI m hp.length) h1 with
  | some os => some (mix m os 0 hp ++ os.drop m.length)
  | none => none
def back (m : List Nat) (hp : Hs) : Rs Va → Rs Va
  | .ok v h1 => match ren (bkI m hp.length) v with
    | some v' => match backH m hp h1 with
      | some h2 => .ok v' h2
      | none => .no
    | none => .no
  | .ex c h1 => match backH m hp h1 with
    | some h2 => .ex c h2
    | none => .no
  | .no => .no
abbrev Fn := List Va → Hs → Rs Va
def callD (F : Fn) (args : List Va) (hp : Hs) : Rs Va :=
  let m := reach 300 hp (refsVs args) []
  if nodupB m then match rens (idx m) args with
    | some args' => match selO m hp m with
      | some h0 => back m hp (F args' h0)
      | none => .no
    | none => .no
  else .no
theorem back_ok {g : Gd} {ρ ρ1 : List Addr} {H H1 : Hp} {hp h0 h1 h2 : Hs} {m : List Nat} (R : Rh g ρ H hp) (hn : m.Nodup) (e : selO m hp m = some h0) (S1 : Sp1 (pickA ρ m) H ρ1 H1) (R1 : Rh g ρ1 H1 h1) (e2 : backH m hp h1 = some h2) :
    Sp1 ρ H (ρ ++ ρ1.drop m.length) H1 ∧ Rh g (ρ ++ ρ1.drop m.length) H1 h2 ∧ Moves (bkI m hp.length) ρ1 (ρ ++ ρ1.drop m.length) := by
  obtain ⟨R0, mv, sub, at_⟩ := sel_ok R hn e
  have pl : (pickA ρ m).length = m.length := by simp [pickA]
  have S : Sp1 ρ H (ρ ++ ρ1.drop m.length) H1 := by
    refine ⟨List.prefix_append _ _, fun b hb => ?_, fun b o hb hnb nt => S1.keep b o hb (fun z => hnb (sub b z)) nt, fun b o u hb => S1.frz b o u hb⟩
    rcases List.mem_append.mp hb with h | h
    · exact .inl h
    · rcases S1.new b (List.mem_of_mem_drop h) with q | q
      · exact .inl (sub b q)
      · exact .inr q
  have M : Moves (bkI m hp.length) ρ1 (ρ ++ ρ1.drop m.length) := fun i j a h1 h3 => by
    unfold bkI at h1
    by_cases hi : i < m.length
    · rw [if_pos hi] at h1
      obtain ⟨b, q1, q2⟩ := at_ i j h1
      have q3 := pre_get S1.pre q2
      rw [h3] at q3; cases q3
      rw [List.getElem?_append_left (List.getElem?_eq_some_iff.mp q1).1]
      exact q1
    · rw [if_neg hi] at h1
      have h1' := Option.some.inj h1
      rw [← h1', ← R.len, List.getElem?_append_right (Nat.le_add_right _ _)]
      rw [Nat.add_sub_cancel_left, List.getElem?_drop, show m.length + (i - m.length) = i by omega]
      exact h3
  refine ⟨S, ?_, M⟩
  unfold backH at e2
  split at e2
  · rename_i os hos
    cases e2
    obtain ⟨hl, hg⟩ := renOs_get hos
    have tk : ρ1.take m.length = pickA ρ m := by
      obtain ⟨c, hc⟩ := S1.pre
      rw [← hc, ← pl, List.take_left']
      rfl
    refine ⟨?_, ?_, R1.tab, fun j a o q1 q2 => ?_⟩
    · simp [mix_len, R.len, hl, R1.len]
    · rw [List.nodup_append]
      refine ⟨R.nd, R1.nd.sublist (List.drop_sublist _ _), fun a ha b hb e3 => ?_⟩
      subst e3
      rcases S1.new a (List.mem_of_mem_drop hb) with q | q
      · have nd := R1.nd
        rw [← List.take_append_drop m.length ρ1, tk, List.nodup_append] at nd
        exact nd.2.2 a q a hb rfl
      · exact R.clash ha q
    · by_cases hj : j < ρ.length
      · rw [List.getElem?_append_left hj] at q1
        rw [List.getElem?_append_left (by rw [mix_len, ← R.len]; exact hj), mix_get, Nat.zero_add] at q2
        obtain ⟨o0, ho0, q2⟩ := Option.map_eq_some_iff.mp q2
        cases hi : idx m j with
        | some i =>
          rw [hi] at q2
          have hm := idx_get hi
          obtain ⟨b, c1, c2⟩ := at_ i j hm
          rw [q1] at c1; cases c1
          have c3 := pre_get S1.pre c2
          have hil : i < h1.length := by rw [← R1.len]; exact (List.getElem?_eq_some_iff.mp c3).1
          obtain ⟨o', d1, d2⟩ := hg i h1[i] (List.getElem?_eq_getElem hil)
          simp only [List.getD, d1, Option.getD_some] at q2
          subst q2
          exact renO_ok M (R1.obj i a _ c3 (List.getElem?_eq_getElem hil)) d2
        | none =>
          rw [hi] at q2
          subst q2
          have q := R.obj j a o0 q1 ho0
          have nm : a ∉ pickA ρ m := fun z => by
            obtain ⟨k, hk, e3⟩ := List.getElem_of_mem z
            have hk' : k < m.length := by rw [← pl]; exact hk
            obtain ⟨b, c1, c2⟩ := at_ k m[k] (List.getElem?_eq_getElem hk')
            rw [List.getElem?_eq_getElem hk, e3] at c2
            cases c2
            have := nd_ix R.nd c1 q1
            exact idx_none hn hi (this ▸ List.getElem_mem hk')
          have qnt : ∀ u, H a = some u → NT u := fun u z => q.nt z
          cases o0 with
          | lst xs => obtain ⟨vs, e3, r⟩ := q; exact ⟨vs, S1.keep _ _ e3 nm (fun _ z => nomatch z), Rvs.step R S _ _ r⟩
          | dK xs => obtain ⟨vs, e3, r⟩ := q; exact ⟨vs, S1.keep _ _ e3 nm (fun _ z => nomatch z), Rkv.step R S _ _ r⟩
          | dT xs => obtain ⟨vs, e3, r⟩ := q; exact ⟨vs, e3.keep (fun _ z => S1.keep _ _ z nm (qnt _ z)) (fun _ _ z => SqN.step R S z), Rkv.step R S _ _ r⟩
          | dU xs => obtain ⟨vs, e3, r⟩ := q; exact ⟨vs, e3.keep (fun _ z => S1.keep _ _ z nm (qnt _ z)) (fun _ _ z => SqN.step R S z), Rkv.step R S _ _ r⟩
          | ins c xs => obtain ⟨dx, vs, e3, r⟩ := q; exact ⟨dx, vs, S1.keep _ _ e3 nm (fun _ z => nomatch z), Rkv.step R S _ _ r⟩
          | dF xs => obtain ⟨dx, vs, e3, r⟩ := q; exact ⟨dx, vs, S1.keep _ _ e3 nm (fun _ z => nomatch z), Rkv.step R S _ _ r⟩
      · rw [List.getElem?_append_right (by omega)] at q1
        rw [List.getElem?_append_right (by rw [mix_len, ← R.len]; omega), mix_len, ← R.len] at q2
        rw [List.getElem?_drop] at q1 q2
        have hil : m.length + (j - ρ.length) < h1.length := by rw [← R1.len]; exact (List.getElem?_eq_some_iff.mp q1).1
        obtain ⟨o', d1, d2⟩ := hg _ h1[m.length + (j - ρ.length)] (List.getElem?_eq_getElem hil)
        rw [d1] at q2; cases q2
        exact renO_ok M (R1.obj _ a _ q1 (List.getElem?_eq_getElem hil)) d2
  · cases e2
def spD (g : Gd) (np : Nat) (F : Fn) : Sp := fun vs H Q E => vs.length = np ∧ ∃ ρ hp xs, Rh g ρ H hp ∧ Rvs g ρ H xs vs ∧ PoE g ρ H (F xs hp) Q E
theorem sp_call {g : Gd} {np : Nat} {F : Fn} {ρ : List Addr} {H : Hp} {hp : Hs} {xs : List Va} {vs : List V} {Q : VK} {E : XK} (R : Rh g ρ H hp) (r : Rvs g ρ H xs vs) (hl : vs.length = np) (h : PoE g ρ H (callD F xs hp) Q E) : spD g np F vs H Q E := by
  unfold callD at h
  simp only at h
  generalize reach 300 hp (refsVs xs) [] = m at h
  by_cases hm : nodupB m = true
  · rw [if_pos hm] at h
    have hn := nodupB_ok hm
    split at h
    · rename_i args' ha
      split at h
      · rename_i h0 e
        obtain ⟨R0, mv, sub, at_⟩ := sel_ok R hn e
        refine ⟨hl, pickA ρ m, h0, args', R0, rens_ok mv _ _ _ r ha, ?_⟩
        cases q : F args' h0 with
        | ok v h1 =>
          intro ρ1 H1 x S1 R1 r1
          rw [q] at h
          simp only [back] at h
          split at h
          · rename_i v' hv
            split at h
            · rename_i h2 e2
              obtain ⟨S, R2, M⟩ := back_ok R hn e S1 R1 e2
              exact h _ H1 x S R2 (ren_ok M _ _ _ r1 hv)
            · exact h.elim
          · exact h.elim
        | ex c h1 =>
          intro ρ1 H1 S1 R1
          rw [q] at h
          simp only [back] at h
          split at h
          · rename_i h2 e2
            obtain ⟨S, R2, M⟩ := back_ok R hn e S1 R1 e2
            exact h _ H1 S R2
          · exact h.elim
        | no => rw [q] at h; exact h
      · exact h.elim
    · exact h.elim
  · rw [if_neg hm] at h; exact h.elim
section
variable {g : Gd} {X : Cx} {W : WX} {n : Nat}
/-- f(..) of a def of the text -/
def dCall (F : Fn) (np : Nat) (a : Da) : De := fun s h => (a s h).bind fun xs h1 => if xs.length == np then callD F xs h1 else .no
theorem e_call {f : Addr} {fd : FuncData} {ps : List Str} {k np : Nat} {F : Fn} {x : Str} {p pos : Pos} {e : Expr} {es : List Expr} {a : Da}
    (FO : FnOk X.prog X.w X.K X.mg X.base (L2.CX X.prog X.w) k f fd ps (spD g np F)) (hb : Binds X.K fd ps []) (hm : X.mg x = some (.ref f)) (hk : PySem.W.keepIn X.K (.ref f) = true) (hkn : k ≤ n)
    (ha : SA g X W (n + 1) (e :: es) a) (hg : Gl X x := by rfl) (hdb : (x == ("__debug__" : Str)) = false := by decide) (he : starEach (e :: es) X.env = (false, eval e X.env) :: starEach es X.env := by rfl) (hpl : (backTo pos (starEach es X.env)).any (·.1) = false := by rfl) :
    SE g X W (n + 1) (.Call (.Name x p) (e :: es) [] pos) (dCall F np a) := by
  intro C
  refine (pe_callS (E := WE W) FO (C.room.mono hkn) hg hm hk hb (fun σ => passAt C.tk σ) (ha C) hdb he hpl).imp ?_
  rintro σ H Q ⟨ρ, s, hp, R, L, h⟩
  refine aBE h R L fun vs h2 ρ2 H2 xs S2 R2 r2 L2 p2 => ?_
  by_cases hl : (vs.length == np) = true
  · rw [if_pos hl] at p2
    exact sp_call R2 r2 (by rw [← r2.length]; simpa using hl) p2
  · rw [if_neg hl] at p2; exact p2.elim
end
end Wr
set_option Elab.async false
set_option linter.all false
set_option maxRecDepth 100000
set_option maxHeartbeats 4000000
set_option autoImplicit false
namespace Wr
open PySem PySem.Spec PyProof.Rows L2
structure Tst (g : Gd) (H H' : Hp) : Prop where
  tup : ∀ a vs, SqN g.K H a vs → SqN g.K H' a vs
  scr : ScrAt g H → ScrAt g H'
  exc : ∀ c v, ExV g H c v → ExV g H' c v
section
variable {g : Gd} {ρ ρ' : List Addr} {H H' : Hp} {hp : Hs}
mutual
theorem Rv.tst (T : Tst g H H') (hr : ρ <+: ρ') : ∀ (x : Va) (v : V), Rv g ρ H x v → Rv g ρ' H' x v
  | .non, _, h => by simpa only [Rv] using h
  | .bl _, _, h => by simpa only [Rv] using h
  | .int _, _, h => by simpa only [Rv] using h
  | .str _, _, h => by simpa only [Rv] using h
  | .ty _, _, h => by simpa only [Rv] using h
  | .gl _, _, h => by simpa only [Rv] using h
  | .scr, _, h => by
    simp only [Rv] at h ⊢
    exact ⟨h.1, T.scr h.2⟩
  | .exc c, _, h => by
    simp only [Rv] at h ⊢
    exact T.exc _ _ h
  | .ref i, _, h => by
    simp only [Rv] at h ⊢
    obtain ⟨a, e, h⟩ := h
    exact ⟨a, pre_get hr e, h⟩
  | .tup xs, _, h => by
    simp only [Rv] at h ⊢
    obtain ⟨a, vs, e, q, r⟩ := h
    exact ⟨a, vs, e, T.tup a vs q, Rvs.tst T hr xs vs r⟩
theorem Rvs.tst (T : Tst g H H') (hr : ρ <+: ρ') : ∀ (x : List Va) (v : List V), Rvs g ρ H x v → Rvs g ρ' H' x v
  | [], _, h => by simpa only [Rvs] using h
  | x :: xs, _, h => by
    simp only [Rvs] at h ⊢
    obtain ⟨v, r, e, h1, h2⟩ := h
    exact ⟨v, r, e, Rv.tst T hr x v h1, Rvs.tst T hr xs r h2⟩
end
theorem Rkv.tst {κ : Type} (T : Tst g H H') (hr : ρ <+: ρ') : ∀ (x : List (κ × Va)) (v : List (κ × V)), Rkv g ρ H x v → Rkv g ρ' H' x v
  | [], _, h => h
  | (k, x) :: xs, _, h => by
    obtain ⟨v, r, e, h1, h2⟩ := h
    exact ⟨v, r, e, Rv.tst T hr x v h1, Rkv.tst T hr xs r h2⟩
theorem Tst.upd {D : Addr} {l : List V} {o : HO} (h : H D = some (.lst l)) : Tst g H (upd H D o) := by
  refine ⟨fun a vs q => ?_, fun q => ?_, fun c v ⟨a, oe, e, q, r⟩ => ⟨a, oe, e, q.imp (fun q => by rw [upd_ne (ne_of q h (by intro z; cases z))]; exact q) id, r⟩⟩
  · rcases q with ⟨u, q, d⟩ | q
    · exact .inl ⟨u, by rw [upd_ne (ne_of q h (by intro z; cases z))]; exact q, d⟩
    · exact .inr q
  · rcases q with ⟨u, q⟩ | q
    · exact .inl ⟨u, by rw [upd_ne (ne_of q h (by intro z; cases z))]; exact q⟩
    · exact .inr q
def Pl : HO → Prop
  | .lst _ => True
  | .dK _ => True
  | _ => False
/-- what is not ours is changed -/
theorem Rh.other (R : Rh g ρ H hp) {D : Addr} {o : HO} (T : Tst g H (upd H D o)) (hD : D ∉ ρ) (hpl : ∀ u, H D = some u → Pl u) : Rh g ρ (upd H D o) hp := by
  refine ⟨R.len, R.nd, fun p hpT => ?_, fun i a x h1 h2 => ?_⟩
  · obtain ⟨ps, h1, h2, h3⟩ := R.tab p hpT
    refine ⟨ps, by rw [upd_ne (show p.1 ≠ D from fun z => (show Pl (.tbl ps) from hpl _ (by rw [← z]; exact h1)).elim)]; exact h1, h2, fun pos cv hc => ?_⟩
    obtain ⟨c, e1, e2⟩ := h3 pos cv hc
    exact ⟨c, e1, by rw [upd_ne (show c ≠ D from fun z => (show Pl (LamX.CodeO c p.2) from hpl _ (by rw [← z]; exact e2)).elim)]; exact e2⟩
  have q := R.obj i a x h1 h2
  have hne : a ≠ D := fun e => hD (e ▸ List.mem_of_getElem? h1)
  have pr : ρ <+: ρ := List.prefix_refl _
  cases x with
  | lst xs => obtain ⟨vs, e, r⟩ := q; exact ⟨vs, by rw [upd_ne hne]; exact e, Rvs.tst T pr _ _ r⟩
  | dK xs => obtain ⟨vs, e, r⟩ := q; exact ⟨vs, by rw [upd_ne hne]; exact e, Rkv.tst T pr _ _ r⟩
  | dT xs => obtain ⟨vs, e, r⟩ := q; exact ⟨vs, e.keep (fun _ z => by rw [upd_ne hne]; exact z) T.1, Rkv.tst T pr _ _ r⟩
  | dU xs => obtain ⟨vs, e, r⟩ := q; exact ⟨vs, e.keep (fun _ z => by rw [upd_ne hne]; exact z) T.1, Rkv.tst T pr _ _ r⟩
  | ins c xs => obtain ⟨dx, vs, e, r⟩ := q; exact ⟨dx, vs, by rw [upd_ne hne]; exact e, Rkv.tst T pr _ _ r⟩
  | dF xs => obtain ⟨dx, vs, e, r⟩ := q; exact ⟨dx, vs, by rw [upd_ne hne]; exact e, Rkv.tst T pr _ _ r⟩
/-- what stands there becomes ours -/
theorem Rh.take (R : Rh g ρ H hp) {D : Addr} {l : List V} {xs : List Va} (hD : D ∉ ρ) (h : H D = some (.lst l)) (r : Rvs g ρ H xs l) : Rh g (ρ ++ [D]) H (hp ++ [.lst xs]) := by
  have T : Tst g H H := ⟨fun _ _ q => q, fun q => q, fun _ _ q => q⟩
  have pr : ρ <+: ρ ++ [D] := List.prefix_append _ _
  refine ⟨by simp [R.len], ?_, R.tab, fun i a x h1 h2 => ?_⟩
  · rw [List.nodup_append]
    refine ⟨R.nd, by simp, fun a ha b hb e => ?_⟩
    obtain rfl := List.mem_singleton.mp hb
    subst e; exact hD ha
  · by_cases hi : i < ρ.length
    · rw [List.getElem?_append_left hi] at h1
      rw [List.getElem?_append_left (by rw [← R.len]; exact hi)] at h2
      have q := R.obj i a x h1 h2
      cases x with
      | lst xs => obtain ⟨vs, e, r⟩ := q; exact ⟨vs, e, Rvs.tst T pr _ _ r⟩
      | dK xs => obtain ⟨vs, e, r⟩ := q; exact ⟨vs, e, Rkv.tst T pr _ _ r⟩
      | dT xs => obtain ⟨vs, e, r⟩ := q; exact ⟨vs, e, Rkv.tst T pr _ _ r⟩
      | dU xs => obtain ⟨vs, e, r⟩ := q; exact ⟨vs, e, Rkv.tst T pr _ _ r⟩
      | ins c xs => obtain ⟨dx, vs, e, r⟩ := q; exact ⟨dx, vs, e, Rkv.tst T pr _ _ r⟩
      | dF xs => obtain ⟨dx, vs, e, r⟩ := q; exact ⟨dx, vs, e, Rkv.tst T pr _ _ r⟩
    · have hi2 : i = ρ.length := by
        have := (List.getElem?_eq_some_iff.mp h1).1
        simp at this; omega
      subst hi2
      simp at h1
      subst h1
      rw [R.len] at h2
      simp at h2
      subst h2
      exact ⟨l, h, Rvs.tst T pr _ _ r⟩
end
section
variable {g : Gd} {X : Cx} {W : WX} {n : Nat} {a b : Expr} {rest : List Expr} {pos : Pos}
def dNot (f : Dt) : Dt := fun s h => (f s h).bind fun c h1 => .ok (!c) h1
theorem t_not {f : Dt} (h : ST g X W n a f) : ST g X W n (.UnaryOp .Not a pos) (dNot f) := by
  intro C
  refine (pt_not (h C)).imp ?_
  rintro σ H Q ⟨ρ, s, hp, R, L, h⟩
  exact tBT h R L fun v h1 ρ1 H1 S1 R1 L1 p1 => p1 ρ1 H1 (.refl _ _) R1
def dAnd (f k : Dt) : Dt := fun s h => (f s h).bind fun c h1 => match c with
  | true => k s h1
  | false => .ok false h1
def dOr (f k : Dt) : Dt := fun s h => (f s h).bind fun c h1 => match c with
  | true => .ok true h1
  | false => k s h1
theorem w_or1 {f : Dt} (h : ST g X W n a f) : SW g X W n (.BoolOp .Or [a] pos) f := fun C => pw_or1 (h C)
theorem w_or {f k : Dt} (h : ST g X W n a f) (h' : SW g X W n (.BoolOp .Or (b :: rest) pos) k) : SW g X W n (.BoolOp .Or (a :: b :: rest) pos) (dOr f k) := by
  intro C
  refine (pw_or (h C) (h' C)).imp ?_
  rintro σ H Q ⟨ρ, s, hp, R, L, h⟩
  refine tBT h R L fun v h1 ρ1 H1 S1 R1 L1 p1 => ?_
  cases v with
  | true => exact p1 ρ1 H1 (.refl _ _) R1
  | false => exact ⟨ρ1, s, h1, R1, L1, p1⟩
theorem t_bool {e : Expr} {f : Dt} (h : SW g X W n e f) : ST g X W n e f := fun C => (h C).pt
theorem e_chain {op op' : CmpOp} {c : Expr} {fa fb fc : De} {r r' : R2} {k k' : K2} (ho : OpC g op r) (ho' : OpC g op' r') (pk : P2 g r k) (pk' : P2 g r' k') (ha : SE g X W n a fa) (hb : SE g X W n b fb) (hc : SE g X W n c fc)
    (hm : lastMarks [op, op'] [b, c] = false := by rfl) : SE g X W n (.Compare a [op, op'] [b, c] pos) (dChain k k' fa fb fc) :=
  fun C => (pe_chain (ho X C.K C.units) (ho' X C.K C.units) (ha C) (hb C) (hc C) hm).imp fun _ _ _ h => chain_imp pk pk' h
def dAndV (f k : De) : De := fun s h => (f s h).bind fun c h1 => match c with
  | .bl true => k s h1
  | .bl false => .ok (.bl false) h1
  | _ => .no
def dOrV (f k : De) : De := fun s h => (f s h).bind fun c h1 => match c with
  | .bl true => .ok (.bl true) h1
  | .bl false => k s h1
  | _ => .no
def dNotV (f : De) : De := fun s h => (f s h).bind fun c h1 => match c with
  | .bl c => .ok (.bl (!c)) h1
  | _ => .no
theorem e_one {op : BoolOp} {f : De} (h : SE g X W n a f) : SE g X W n (.BoolOp op [a] pos) f := fun C => pe_one (h C)
theorem e_and {f k : De} (h : SE g X W n a f) (h' : SE g X W n (.BoolOp .And (b :: rest) pos) k) : SE g X W n (.BoolOp .And (a :: b :: rest) pos) (dAndV f k) := by
  intro C
  refine (pe_and (h C) (h' C)).imp ?_
  rintro σ H Q ⟨ρ, s, hp, R, L, h⟩
  refine bE h R L fun v h1 ρ1 H1 x S1 R1 r1 L1 p1 => ?_
  cases v with
  | bl c =>
    simp only [Rv] at r1
    refine ⟨c, r1, ?_⟩
    cases c with
    | true => exact ⟨ρ1, s, h1, R1, L1, p1⟩
    | false => exact p1 ρ1 H1 _ (.refl _ _) R1 (by simp only [Rv])
  | _ => exact p1.elim
theorem e_not {f : De} (h : SE g X W n a f) : SE g X W n (.UnaryOp .Not a pos) (dNotV f) := by
  intro C
  refine (pe_not (h C)).imp ?_
  rintro σ H Q ⟨ρ, s, hp, R, L, h⟩
  refine bE h R L fun v h1 ρ1 H1 x S1 R1 r1 L1 p1 => ?_
  cases v with
  | bl c =>
    simp only [Rv] at r1
    exact ⟨c, r1, p1 ρ1 H1 _ (.refl _ _) R1 (by simp only [Rv])⟩
  | _ => exact p1.elim
def dIf (t : Dt) (f k : De) : De := fun s h => (t s h).bind fun c h1 => match c with
  | true => f s h1
  | false => k s h1
variable {st : Stmt} {sts : List Stmt} {e : Expr}
def dNx : Ds := fun s h => .nx s h
def dSeq (f k : Ds) : Ds := fun s h => match f s h with
  | .nx s1 h1 => k s1 h1
  | .rt v h1 => .rt v h1
  | .bk s1 h1 => .bk s1 h1
  | .ct s1 h1 => .ct s1 h1
  | .ex c s1 h1 => .ex c s1 h1
  | .no => .no
theorem b_nil : SB g X W n [] dNx := fun _ => pss_nil.imp fun D σ H ⟨ρ, s, hp, R, L, h⟩ => h ρ H σ (.refl _ _) R L
theorem b_cons {f k : Ds} (h : SS g X W n st f) (h' : SB g X W n sts k) : SB g X W n (st :: sts) (dSeq f k) := by
  intro C
  refine (pss_cons (h C) (h' C)).imp ?_
  rintro D σ H ⟨ρ, s, hp, R, L, h⟩
  refine ⟨ρ, s, hp, R, L, ?_⟩
  unfold dSeq at h
  cases q : f s hp with
  | nx s1 h1 => rw [q] at h; exact fun ρ1 H1 σ1 S1 R1 L1 => ⟨ρ1, s1, h1, R1, L1, PoS.at h S1⟩
  | rt v h1 => rw [q] at h; exact h
  | bk s1 h1 => rw [q] at h; exact h
  | ct s1 h1 => rw [q] at h; exact h
  | ex c s1 h1 => rw [q] at h; exact h
  | no => rw [q] at h; exact h
theorem b_one {f : Ds} (h : SS g X W n st f) : SB g X W n [st] f := fun C => pss_one (h C)
def dNo : Ds := fun _ _ => .no
def dExpr (f : De) : Ds := fun s h => (f s h).bindS s fun _ h1 => .nx s h1
theorem s_expr {f : De} (h : SE g X W n e f) (hs : swapsWith e none pos.line X.env = pure false := by rfl) : SS g X W n (.Expr e pos) (dExpr f) := by
  intro C
  refine (ps_expr (h C) hs).imp ?_
  rintro D σ H ⟨ρ, s, hp, R, L, h⟩
  exact bS h R L fun v h1 ρ1 H1 x S1 R1 r1 L1 p1 => p1 ρ1 H1 σ (.refl _ _) R1 L1
def dRet (f : De) : Ds := fun s h => (f s h).bindS s fun v h1 => .rt v h1
theorem s_ret {f : De} (h : SE g X W n e f) : SS g X W n (.Return (some e) pos) (dRet f) := by
  intro C
  refine (ps_ret (h C)).imp ?_
  rintro D σ H ⟨ρ, s, hp, R, L, h⟩
  exact bS h R L fun v h1 ρ1 H1 x S1 R1 r1 L1 p1 => p1 ρ1 H1 x (.refl _ _) R1 r1
def dIfS (t : Dt) (f k : Ds) : Ds := fun s h => (t s h).bindS s fun c h1 => match c with
  | true => f s h1
  | false => k s h1
theorem s_if {c : Expr} {x y : List Stmt} {t : Dt} {f k : Ds} (hc : ST g X W n c t) (h : SB g X W n x f) (h' : SB g X W n y k) : SS g X W n (.If c x y pos) (dIfS t f k) := by
  intro C
  refine (ps_if (hc C) (h C) (h' C)).imp ?_
  rintro D σ H ⟨ρ, s, hp, R, L, h⟩
  refine tBS h R L fun v h1 ρ1 H1 S1 R1 L1 p1 => ?_
  cases v with
  | true => exact ⟨ρ1, s, h1, R1, L1, p1⟩
  | false => exact ⟨ρ1, s, h1, R1, L1, p1⟩
def dSet (i : Nat) (f : De) : Ds := fun s h => (f s h).bindS s fun v h1 => .nx (s.set i (some v)) h1
theorem set_imp {i : Nat} {f : De} {D : Ends} {σ : L2.St} {H : Hp} (h : tS g W (dSet i f) D σ H) : tAsg (tE g W f) (gName i) D σ H := by
  obtain ⟨ρ, s, hp, R, L, h⟩ := h
  exact bS h R L fun v h1 ρ1 H1 x S1 R1 r1 L1 p1 => p1 ρ1 H1 _ (.refl _ _) R1 (L1.set i r1)
theorem s_set (i : Nat) {x : Str} {f : De} {pos' : Pos} (he : SE g X W n e f) (hi : X.N[i]? = some x := by rfl) (hx : Loc X.env.scope x := by first | exact .inl rfl | exact .inr rfl) (hs : swapsWith e (some (.Name x pos')) pos.line X.env = pure false := by rfl)
    (hf : X.fn x = true ∨ X.env.scope.names.lookup x = some .local := by first | exact .inl rfl | exact .inr rfl) : SS g X W n (.Assign [.Name x pos'] e pos) (dSet i f) :=
  fun C => (ps_set C.nd hi hx (he C) hs hf).imp fun _ _ _ h => set_imp h
end
end Wr
set_option Elab.async false
set_option linter.all false
set_option maxRecDepth 100000
set_option maxHeartbeats 4000000
set_option autoImplicit false
namespace Wr
open PySem PySem.Spec PyProof.Rows L2
section
variable (g : Gd) (ρ : List Addr) (H : Hp)
/-- what an iterator yields: a value of ours, or (b) a tuple that only is to be taken apart -/
def Ry : Bool → Va → V → Prop
  | false, x, v => Rv g ρ H x v
  | true, x, v => Rv g ρ H x v ∨ ∃ xs vs T, x = .tup xs ∧ v = .ref T ∧ SqT g.K H T vs ∧ Rvs g ρ H xs vs
end
theorem Ry.of {g : Gd} {ρ : List Addr} {H : Hp} {b : Bool} {x : Va} {v : V} (h : Rv g ρ H x v) : Ry g ρ H b x v := by
  cases b with
  | false => exact h
  | true => exact .inl h
inductive Tg where
  | nm (i : Nat) | tp (is : List Nat)
def setEach : List Nat → List Va → Sg → Option Sg
  | [], [], s => some s
  | i :: is, x :: xs, s => setEach is xs (s.set i (some x))
  | _, _, _ => none
def setT (t : Tg) (x : Va) (s : Sg) (h : Hs) : Option Sg := match t with
  | .nm i => some (s.set i (some x))
  | .tp is => match x with
    | .tup xs => setEach is xs s
    | .ref r => match h[r]? with
      | some (.lst xs) => setEach is xs s
      | _ => none
    | _ => none
def Tg.slots : Tg → List Nat
  | .nm i => [i]
  | .tp is => is
def Agr (is : List Nat) (σ σ' : L2.St) : Prop := ∀ vs : List Nat, (∀ i ∈ is, i ∈ vs) → wipe σ' vs = wipe σ vs
theorem wipe_out {σ : L2.St} {i : Nat} {x : Option V} : ∀ {vs : List Nat}, i ∉ vs → wipe (σ.set i x) vs = (wipe σ vs).set i x
  | [], _ => rfl
  | v :: vs, h => by
    unfold wipe
    rw [wipe_out (fun z => h (List.mem_cons_of_mem _ z)), List.set_comm]
    intro e; exact h (by rw [e]; exact List.mem_cons_self)
theorem wipe_set {σ : L2.St} {i : Nat} {x : Option V} : ∀ {vs : List Nat}, i ∈ vs → wipe (σ.set i x) vs = wipe σ vs
  | v :: vs, h => by
    unfold wipe
    by_cases hv : i ∈ vs
    · rw [wipe_set hv]
    · rcases List.mem_cons.mp h with e | e
      · subst e
        rw [wipe_out hv, List.set_set]
      · exact absurd e hv
theorem Agr.set (σ : L2.St) (i : Nat) (x : Option V) : Agr [i] σ (σ.set i x) := fun vs h => wipe_set (h i (by simp))
theorem Agr.refl (is : List Nat) (σ : L2.St) : Agr is σ σ := fun _ _ => rfl
theorem wipe_wipe (σ : L2.St) : ∀ (us vs : List Nat), (∀ i ∈ us, i ∈ vs) → wipe (wipe σ us) vs = wipe σ vs
  | [], _, _ => rfl
  | v :: us, vs, h => by
    show wipe ((wipe σ us).set v none) vs = _
    rw [wipe_set (h v (by simp)), wipe_wipe σ us vs fun i hi => h i (List.mem_cons_of_mem _ hi)]
def wipeS (s : Sg) : List Nat → Sg
  | [] => s
  | v :: vs => (wipeS s vs).set v none
theorem Rsl.none {g : Gd} {ρ : List Addr} {H : Hp} {s : Sg} {σ : L2.St} (h : Rsl g ρ H s σ) (i : Nat) : Rsl g ρ H (s.set i none) (σ.set i none) := by
  refine ⟨by simpa using h.len, fun j y e => ?_⟩
  by_cases hj : i = j
  · subst hj
    by_cases hi : i < s.length
    · rw [List.getElem?_set_self hi] at e; cases e
    · rw [List.getElem?_eq_none (by simpa using hi)] at e; cases e
  · rw [List.getElem?_set_ne hj] at e ⊢
    exact h.at_ j y e
theorem Rsl.wipe {g : Gd} {ρ : List Addr} {H : Hp} {s : Sg} {σ : L2.St} (h : Rsl g ρ H s σ) : ∀ vs : List Nat, Rsl g ρ H (wipeS s vs) (wipe σ vs)
  | [] => h
  | v :: vs => (Rsl.wipe h vs).none v
def tG (g : Gd) (b : Bool) (t : Tg) : TG := fun v σ H Q => ∃ ρ s hp x s', Rh g ρ H hp ∧ Rsl g ρ H s σ ∧ Ry g ρ H b x v ∧ setT t x s hp = some s' ∧ ∀ σ', Rsl g ρ H s' σ' → Agr t.slots σ σ' → Q σ' H
def SG (g : Gd) (X : Cx) (b : Bool) (tg : Expr) (t : Tg) : Prop := X.K = g.K → X.calm = true → X.N.Nodup → PG X tg (tG g b t)
theorem _root_.L2.PG.imp {X : Cx} {e : Expr} {t t' : TG} (h : PG X e t) (q : ∀ v σ H Q, t' v σ H Q → t v σ H Q) : PG X e t' := ⟨fun pins s σ H v u Q I r w => h.run pins s σ H v u Q I r (q _ _ _ _ w)⟩
theorem _root_.L2.PG.or {X : Cx} {e : Expr} {t t' : TG} (h : PG X e t) (h' : PG X e t') : PG X e (fun v σ H Q => t v σ H Q ∨ t' v σ H Q) := ⟨fun pins s σ H v u Q I r w => by
  rcases w with w | w
  · exact h.run pins s σ H v u Q I r w
  · exact h'.run pins s σ H v u Q I r w⟩
section
variable {g : Gd} {X : Cx} {W : WX} {n : Nat} {pos : Pos}
theorem g_name (i : Nat) {x : Str} (hi : X.N[i]? = some x := by rfl) (hx : Loc X.env.scope x := by first | exact .inl rfl | exact .inr rfl) (hf : X.fn x = true ∨ X.env.scope.names.lookup x = some .local := by first | exact .inl rfl | exact .inr rfl) : SG g X false (.Name x pos) (.nm i) := by
  intro hK hc hN
  refine (pg_name hN hi hx hf).imp ?_
  rintro v σ H Q ⟨ρ, s, hp, x, s', R, L, r, e, h⟩
  unfold setT at e
  cases e
  exact h _ (L.set i r) (Agr.set σ i _)
/-- names one after another -/
inductive SNs (X : Cx) : List Expr → List Nat → Prop
  | nil : SNs X [] []
  | cons {x : Str} {pos : Pos} {i : Nat} {es : List Expr} {is : List Nat} (hi : X.N[i]? = some x) (hx : Loc X.env.scope x) (hf : X.fn x = true ∨ X.env.scope.names.lookup x = some .local) (h : SNs X es is) : SNs X (.Name x pos :: es) (i :: is)
theorem sn_cons (i : Nat) {x : Str} {es : List Expr} {is : List Nat} (h : SNs X es is) (hi : X.N[i]? = some x := by rfl) (hx : Loc X.env.scope x := by first | exact .inl rfl | exact .inr rfl)
    (hf : X.fn x = true ∨ X.env.scope.names.lookup x = some .local := by first | exact .inl rfl | exact .inr rfl) : SNs X (.Name x pos :: es) (i :: is) := .cons hi hx hf h
theorem SNs.pgs (hN : X.N.Nodup) : ∀ {es : List Expr} {is : List Nat}, SNs X es is → PGs X es (fun vs σ H Q => ∃ ρ s xs s', Rsl g ρ H s σ ∧ Rvs g ρ H xs vs ∧ setEach is xs s = some s' ∧ ∀ σ', Rsl g ρ H s' σ' → Agr is σ σ' → Q σ' H)
  | _, _, .nil => by
    refine ⟨fun pins s σ H vs us Q I r h => ?_⟩
    obtain ⟨ρ, s0, xs, s', L, rv, e, h⟩ := h
    cases xs with
    | nil =>
      simp only [Rvs] at rv
      subst rv
      unfold setEach at e
      cases e
      exact pgs_nil.run pins s σ H [] us Q I r ⟨rfl, h σ L (Agr.refl _ _)⟩
    | cons _ _ => unfold setEach at e; cases e
  | _, _, .cons (i := i) (is := is) hi hx hf hr => by
    refine ⟨fun pins s σ H vs us Q I r h => ?_⟩
    obtain ⟨ρ, s0, xs, s', L, rv, e, h⟩ := h
    cases xs with
    | nil => unfold setEach at e; cases e
    | cons x xs =>
      simp only [Rvs] at rv
      obtain ⟨v, vr, rfl, r1, r2⟩ := rv
      unfold setEach at e
      refine (pgs_cons (pg_name hN hi hx hf) (SNs.pgs hN hr)).run pins s σ H _ us Q I r ⟨v, vr, rfl, ?_⟩
      exact ⟨ρ, _, xs, s', L.set i r1, r2, e, fun σ' L' A => h σ' L' fun ws hw => (A ws fun j hj => hw j (List.mem_cons_of_mem _ hj)).trans (wipe_set (hw i (by simp)))⟩
theorem SNs.len : ∀ {es : List Expr} {is : List Nat}, SNs X es is → (assignEach es X.env).length = is.length ∧ (assignEach es X.env).findIdx? (·.1) = none
  | _, _, .nil => ⟨rfl, rfl⟩
  | _, _, .cons (es := es) hi hx hf hr => by
    obtain ⟨h1, h2⟩ := SNs.len hr
    refine ⟨?_, ?_⟩
    · simp [assignEach, h1]
    · simp [assignEach, h2, List.findIdx?_cons]
theorem setEach_len : ∀ {is : List Nat} {xs : List Va} {s s' : Sg}, setEach is xs s = some s' → xs.length = is.length
  | [], [], _, _, _ => rfl
  | [], _ :: _, _, _, h => by unfold setEach at h; cases h
  | _ :: _, [], _, _, h => by unfold setEach at h; cases h
  | _ :: is, _ :: xs, _, _, h => by
    unfold setEach at h
    simp [setEach_len h]
theorem g_tup {b : Bool} {es : List Expr} {is : List Nat} {k : Nat} (h : SNs X es is) : SG g X b (.Tuple es k pos) (.tp is) := by
  intro hK hc hN
  obtain ⟨h1, h2⟩ := h.len
  refine (PG.or (pg_tup hc (SNs.pgs (g := g) hN h) h1 h2) (pg_lst hc (SNs.pgs (g := g) hN h) h1 h2)).imp ?_
  rintro v σ H Q ⟨ρ, s, hp, x, s', R, L, r, e, q⟩
  rw [hK]
  have tup : ∀ (xs : List Va) (vs : List V) (T : Addr), setEach is xs s = some s' → SqT g.K H T vs → Rvs g ρ H xs vs → gTup g.K is.length (fun vs σ H Q => ∃ ρ s xs s', Rsl g ρ H s σ ∧ Rvs g ρ H xs vs ∧ setEach is xs s = some s' ∧ ∀ σ', Rsl g ρ H s' σ' → Agr is σ σ' → Q σ' H) (.ref T) σ H Q := fun xs vs T e ht rv =>
    ⟨T, vs, rfl, ht, by rw [← rv.length]; exact setEach_len e, ρ, s, xs, s', L, rv, e, q⟩
  have main : Rv g ρ H x v ∨ (∃ xs vs T, x = .tup xs ∧ v = .ref T ∧ SqT g.K H T vs ∧ Rvs g ρ H xs vs) := by
    cases b with
    | false => exact .inl r
    | true => exact r
  rcases main with r | ⟨xs, vs, T, rfl, rfl, ht, rv⟩
  · cases x with
    | tup xs =>
      simp only [Rv] at r
      obtain ⟨a, vs, rfl, ht, rv⟩ := r
      exact .inl (tup xs vs a e ht.sqT rv)
    | ref i =>
      simp only [Rv] at r
      obtain ⟨a, ha, rfl⟩ := r
      unfold setT at e
      simp only at e
      split at e
      · rename_i xs hx
        obtain ⟨vs, e2, rv⟩ := R.obj i a _ ha hx
        exact .inr ⟨a, vs, rfl, .inl (.inl e2), by rw [← rv.length]; exact setEach_len e, ρ, s, xs, s', L, rv, e, q⟩
      · cases e
    | _ => exact nomatch e
  · exact .inl (tup xs vs T e ht rv)
/-- a, b = e -/
def dAsgT (t : Tg) (f : De) : Ds := fun s h => (f s h).bindS s fun v h1 => match setT t v s h1 with
  | some s' => .nx s' h1
  | none => .no
end
inductive It' where
  | tup (xs : List Va) | lst (r : Nat) | rng (lo : Int) (n : Nat) | str (x : List Nat) | zip (a b : It') | enum (a : It') | keys (r : Nat)
def kVa : Key → Va
  | .inl i => .int i
  | .inr x => .str x
def itLen : It' → Hs → Nat
  | .tup xs, _ => xs.length
  | .lst r, h => match h[r]? with
    | some (.lst xs) => xs.length
    | _ => 0
  | .rng _ n, _ => n
  | .str x, _ => x.length
  | .zip a b, h => min (itLen a h) (itLen b h)
  | .enum a, h => itLen a h
  | .keys r, h => match h[r]? with
    | some (.dK xs) => xs.length
    | _ => 0
def nxt : It' → Nat → Hs → Option (Option Va)
  | .tup xs, i, _ => some xs[i]?
  | .lst r, i, h => match h[r]? with
    | some (.lst xs) => some xs[i]?
    | _ => none
  | .rng lo n, i, _ => some (if i < n then some (.int (lo + (i : Int))) else none)
  | .str x, i, _ => some (x[i]?.map fun c => .str ⟨#[c]⟩)
  | .zip a b, i, h => if i ≤ itLen a h && i ≤ itLen b h then match nxt a i h with
      | none => none
      | some oa => match nxt b i h with
        | none => none
        | some ob => match oa, ob with
          | some x, some y => some (some (.tup [x, y]))
          | _, _ => some none
    else none
  | .enum a, i, h => if i ≤ itLen a h then match nxt a i h with
      | some (some x) => some (some (.tup [.int (i : Int), x]))
      | some none => some none
      | none => none
    else none
  | .keys r, i, h => match h[r]? with
    | some (.dK kvs) => some (kvs[i]?.map fun kv => kVa kv.1)
    | _ => none
/-- J goes as it tells, from here on -/
def Rit (g : Gd) (ρ : List Addr) (H : Hp) (b : Bool) (it : It') (J : It) : Prop := ∀ (i : Nat) (ρ1 : List Addr) (H1 : Hp) (hp1 : Hs) (o : Option Va), Sp1 ρ H ρ1 H1 → Rh g ρ1 H1 hp1 → nxt it i hp1 = some o → match o with
  | none => J.stop i H1
  | some v => J.go i H1 ∧ ∀ x H2, J.yld i H1 x H2 → Sp1 ρ1 H1 ρ1 H2 ∧ Rh g ρ1 H2 hp1 ∧ Ry g ρ1 H2 b v x
abbrev Di := Sg → Hs → Rs It'
def PoI (g : Gd) (b : Bool) (ρ : List Addr) (H : Hp) (r : Rs It') (Rr : It → Hp → Prop) (E : XK) : Prop := match r with
  | .ok it h => ∀ ρ' H' J, Sp1 ρ H ρ' H' → Rh g ρ' H' h → Rit g ρ' H' b it J → Rr J H'
  | .ex c h => ∀ ρ' H', Sp1 ρ H ρ' H' → Rh g ρ' H' h → E (.ref (g.G c)) none H'
  | .no => False
def tI (g : Gd) (W : WX) (b : Bool) (f : Di) : TI := fun σ H Rr => ∃ ρ s hp, Rh g ρ H hp ∧ Rsl g ρ H s σ ∧ PoI g b ρ H (f s hp) Rr (fun c d H' => W c d σ H')
def SI (g : Gd) (X : Cx) (W : WX) (n : Nat) (b : Bool) (tg e : Expr) (f : Di) : Prop := Cz g X W n → PI X tg e (tI g W b f)
theorem _root_.L2.PI.imp {X : Cx} {tg e : Expr} {t t' : TI} (h : PI X tg e t) (q : ∀ σ H R, t' σ H R → t σ H R) : PI X tg e t' := ⟨fun pins s σ H R I w => h.run pins s σ H R I (q _ _ _ w)⟩
theorem _root_.L2.PI.or {X : Cx} {tg e : Expr} {t t' : TI} (h : PI X tg e t) (h' : PI X tg e t') : PI X tg e (fun σ H R => t σ H R ∨ t' σ H R) := ⟨fun pins s σ H R I w => by
  rcases w with w | w
  · exact h.run pins s σ H R I w
  · exact h'.run pins s σ H R I w⟩
end Wr
set_option Elab.async false
set_option linter.all false
set_option maxRecDepth 100000
set_option maxHeartbeats 4000000
set_option autoImplicit false
namespace Wr
open PySem PySem.Spec PyProof.Rows L2
section
variable {g : Gd} {X : Cx} {W : WX} {n : Nat} {pos : Pos} {tg e : Expr}
theorem iBE {f : De} {k : Va → Hs → Rs It'} {σ : L2.St} {H : Hp} {ρ : List Addr} {s : Sg} {hp : Hs} {b : Bool} {Rr : It → Hp → Prop} {T : V → Hp → Prop} (h : PoI g b ρ H ((f s hp).bind k) Rr (EW W σ)) (R : Rh g ρ H hp) (L : Rsl g ρ H s σ)
    (hk : ∀ v h ρ1 H1 x, f s hp = .ok v h → Sp1 ρ H ρ1 H1 → Rh g ρ1 H1 h → Rv g ρ1 H1 v x → Rsl g ρ1 H1 s σ → PoI g b ρ1 H1 (k v h) Rr (EW W σ) → T x H1) : tE g W f σ H T := by
  refine ⟨ρ, s, hp, R, L, ?_⟩
  have mv : ∀ {ρ1 : List Addr} {H1 : Hp} {r : Rs It'}, Sp1 ρ H ρ1 H1 → PoI g b ρ H r Rr (EW W σ) → PoI g b ρ1 H1 r Rr (EW W σ) := fun {ρ1 H1 r} S h => by
    cases r with
    | ok v hh => exact fun ρ2 H2 x S2 R r => h ρ2 H2 x (S.trans S2) R r
    | ex c hh => exact fun ρ2 H2 S2 R => h ρ2 H2 (S.trans S2) R
    | no => exact h
  cases q : f s hp with
  | ok v h1 => rw [q] at h; exact fun ρ1 H1 x S R1 r => hk v h1 ρ1 H1 x q S R1 r (L.step R S) (mv S h)
  | ex c h1 => rw [q] at h; exact h
  | no => rw [q] at h; exact h
/-- a list, a tuple or a text of ours, as it is walked -/
def itOf (v : Va) (h : Hs) : Rs It' := match v with
  | .tup xs => .ok (.tup xs) h
  | .ref r => match h[r]? with
    | some (.lst _) => .ok (.lst r) h
    | _ => .no
  | .str x => .ok (.str x.cps.toList) h
  | _ => .no
theorem rit_list {ρ : List Addr} {H : Hp} {hp : Hs} {b : Bool} {r : Nat} {a : Addr} (ha : ρ[r]? = some a) : Rit g ρ H b (.lst r) (Itl g.K a) := by
  intro i ρ1 H1 hp1 o S1 R1 hq
  have ha1 := pre_get S1.pre ha
  unfold nxt at hq
  split at hq
  · rename_i xs hx
    obtain ⟨vs, e, rv⟩ := R1.obj r a _ ha1 hx
    have sq : SqL g.K H1 a vs := .inl (.inl e)
    cases hq
    cases hi : xs[i]? with
    | none =>
      have hl := rv.length
      rw [List.getElem?_eq_none_iff] at hi
      exact ⟨vs, sq, by omega⟩
    | some v =>
      obtain ⟨x, ex, rx⟩ := rv.get hi
      refine ⟨⟨vs, x, sq, ex⟩, fun y H2 hy => ?_⟩
      obtain ⟨rfl, hy⟩ := hy
      have e2 := hy vs sq
      rw [ex] at e2; cases e2
      exact ⟨.refl _ _, R1, Ry.of rx⟩
  · cases hq
theorem rit_tup {ρ : List Addr} {H : Hp} {hp : Hs} {b : Bool} {a : Addr} {xs : List Va} {vs : List V} (R : Rh g ρ H hp) (ht : SqN g.K H a vs) (rv : Rvs g ρ H xs vs) : Rit g ρ H b (.tup xs) (Itt g.K a) := by
  intro i ρ1 H1 hp1 o S1 R1 hq
  have sq : SqT g.K H1 a vs := (SqN.step R S1 ht).sqT
  have rv1 := Rvs.step R S1 _ _ rv
  unfold nxt at hq
  cases hq
  cases hi : xs[i]? with
  | none =>
    have hl := rv.length
    rw [List.getElem?_eq_none_iff] at hi
    exact ⟨vs, sq, by omega⟩
  | some v =>
    obtain ⟨x, ex, rx⟩ := rv1.get hi
    refine ⟨⟨vs, x, sq, ex⟩, fun y H2 hy => ?_⟩
    obtain ⟨rfl, hy⟩ := hy
    have e2 := hy vs sq
    rw [ex] at e2; cases e2
    exact ⟨.refl _ _, R1, Ry.of rx⟩
theorem rit_str {ρ : List Addr} {H : Hp} {b : Bool} {z : Str} : Rit g ρ H b (.str z.cps.toList) (Its z) := by
  intro i ρ1 H1 hp1 o S1 R1 hq
  unfold nxt at hq
  cases hq
  cases hi : z.cps.toList[i]? with
  | none =>
    rw [List.getElem?_eq_none_iff] at hi
    show z.cps.size ≤ i
    simpa using hi
  | some c =>
    have hc : z.cps[i]? = some c := by simpa using hi
    refine ⟨?_, fun y H2 hy => ?_⟩
    · show i < z.cps.size
      exact (Array.getElem?_eq_some_iff.mp hc).1
    · obtain ⟨rfl, c', h1, rfl⟩ := hy
      rw [hc] at h1; cases h1
      exact ⟨.refl _ _, R1, Ry.of (by simp only [Rv])⟩
def dIt (f : De) : Di := fun s h => (f s h).bind itOf
theorem i_seq {b : Bool} {f : De} (he : SE g X W n e f) : SI g X W n b tg e (dIt f) := by
  intro C
  refine (PI.or (pi_list (he C)) (PI.or (pi_tup (he C)) (pi_str (he C)))).imp ?_
  rintro σ H Rr ⟨ρ, s, hp, R, L, h⟩
  rw [C.K]
  unfold dIt at h
  cases q : f s hp with
  | no => simp only [q, Rs.bind] at h; exact h.elim
  | ex c h1 =>
    simp only [q, Rs.bind] at h
    exact .inl ⟨ρ, s, hp, R, L, by rw [q]; exact h⟩
  | ok v h1 =>
    cases v with
    | tup xs =>
      refine .inr (.inl (iBE h R L fun v h1 ρ1 H1 x e1 S1 R1 r1 L1 p1 => ?_))
      rw [q] at e1; cases e1
      simp only [Rv] at r1
      obtain ⟨a, vs, rfl, ht, rv⟩ := r1
      exact ⟨a, rfl, ⟨vs, ht.sqT⟩, p1 ρ1 H1 _ (.refl _ _) R1 (rit_tup R1 ht rv)⟩
    | str z =>
      refine .inr (.inr (iBE h R L fun v h1 ρ1 H1 x e1 S1 R1 r1 L1 p1 => ?_))
      rw [q] at e1; cases e1
      simp only [Rv] at r1
      exact ⟨z, r1, p1 ρ1 H1 _ (.refl _ _) R1 rit_str⟩
    | ref r =>
      refine .inl (iBE h R L fun v h1 ρ1 H1 x e1 S1 R1 r1 L1 p1 => ?_)
      rw [q] at e1; cases e1
      simp only [Rv] at r1
      obtain ⟨a, ha, rfl⟩ := r1
      unfold itOf at p1
      simp only at p1
      split at p1
      · rename_i xs hx
        obtain ⟨vs, e2, rv⟩ := R1.obj r a _ ha hx
        exact ⟨a, rfl, ⟨vs, .inl (.inl e2)⟩, p1 ρ1 H1 _ (.refl _ _) R1 (rit_list (hp := []) ha)⟩
      · exact p1.elim
    | _ => simp only [q, Rs.bind, itOf] at h; exact h.elim
/-- range -/
def rgOk (a b : Int) : Bool := decide (-(2 ^ 62) ≤ a) && decide (a < 2 ^ 62) && decide (-(2 ^ 62) ≤ b) && decide (b < 2 ^ 62)
theorem rgOk_ok {a b : Int} (h : rgOk a b = true) : -(2 ^ 62) ≤ a ∧ a < 2 ^ 62 ∧ -(2 ^ 62) ≤ b ∧ b < 2 ^ 62 := by
  unfold rgOk at h
  simp only [Bool.and_eq_true, decide_eq_true_eq] at h
  exact ⟨h.1.1.1, h.1.1.2, h.1.2, h.2⟩
def dRng1 (f : Da) : Di := fun s h => (f s h).bind fun vs h1 => match vs with
  | [.int j] => if rgOk 0 j then .ok (.rng 0 j.toNat) h1 else .no
  | _ => .no
def dRng2 (f : Da) : Di := fun s h => (f s h).bind fun vs h1 => match vs with
  | [.int i, .int j] => if rgOk i j then .ok (.rng i (j - i).toNat) h1 else .no
  | _ => .no
theorem rit_rng {ρ : List Addr} {H : Hp} {b : Bool} {lo : Int} {m : Nat} : Rit g ρ H b (.rng lo m) (Itr lo m) := by
  intro i ρ1 H1 hp1 o S1 R1 hq
  unfold nxt at hq
  cases hq
  by_cases hi : i < m
  · rw [if_pos hi]
    refine ⟨hi, fun y H2 hy => ?_⟩
    obtain ⟨rfl, rfl⟩ := hy
    exact ⟨.refl _ _, R1, Ry.of (by simp only [Rv])⟩
  · rw [if_neg hi]
    exact Nat.le_of_not_lt hi
theorem iBA {f : Da} {k : List Va → Hs → Rs It'} {σ : L2.St} {H : Hp} {ρ : List Addr} {s : Sg} {hp : Hs} {b : Bool} {Rr : It → Hp → Prop} {T : List V → Hp → Prop} (h : PoI g b ρ H ((f s hp).bind k) Rr (EW W σ)) (R : Rh g ρ H hp) (L : Rsl g ρ H s σ)
    (hk : ∀ v h ρ1 H1 x, f s hp = .ok v h → Sp1 ρ H ρ1 H1 → Rh g ρ1 H1 h → Rvs g ρ1 H1 v x → Rsl g ρ1 H1 s σ → PoI g b ρ1 H1 (k v h) Rr (EW W σ) → T x H1) : tA g W f σ H T := by
  refine ⟨ρ, s, hp, R, L, ?_⟩
  have mv : ∀ {ρ1 : List Addr} {H1 : Hp} {r : Rs It'}, Sp1 ρ H ρ1 H1 → PoI g b ρ H r Rr (EW W σ) → PoI g b ρ1 H1 r Rr (EW W σ) := fun {ρ1 H1 r} S h => by
    cases r with
    | ok v hh => exact fun ρ2 H2 x S2 R r => h ρ2 H2 x (S.trans S2) R r
    | ex c hh => exact fun ρ2 H2 S2 R => h ρ2 H2 (S.trans S2) R
    | no => exact h
  cases q : f s hp with
  | ok v h1 => rw [q] at h; exact fun ρ1 H1 x S R1 r => hk v h1 ρ1 H1 x q S R1 r (L.step R S) (mv S h)
  | ex c h1 => rw [q] at h; exact h
  | no => rw [q] at h; exact h
theorem Rvs.int1 {ρ : List Addr} {H : Hp} {j : Int} {x : List V} (h : Rvs g ρ H [.int j] x) : x = [.int j] := by
  simp only [Rvs, Rv] at h
  obtain ⟨v, r, rfl, rfl, rfl⟩ := h
  rfl
theorem i_range1 {b : Bool} {a : Expr} {f : Da} {p : Pos} (hm : X.mg "range" = none) (ha : SA g X W n [a] f) (hg : Gl X "range" := by rfl) (hs : starEach [a] X.env = [(false, eval a X.env)] := by rfl) :
    SI g X W n b tg (.Call (.Name "range" p) [a] [] pos) (dRng1 f) := by
  intro C
  refine (pi_range1 hg hm (ha C) hs).imp ?_
  rintro σ H Rr ⟨ρ, s, hp, R, L, h⟩
  refine iBA h R L fun v h1 ρ1 H1 x e1 S1 R1 r1 L1 p1 => ?_
  split at p1
  · rename_i j
    by_cases ok : rgOk 0 j = true
    · rw [if_pos ok] at p1
      have o := rgOk_ok ok
      exact ⟨j, r1.int1, o.2.2.1, o.2.2.2, p1 ρ1 H1 _ (.refl _ _) R1 rit_rng⟩
    · rw [if_neg ok] at p1; exact p1.elim
  · exact p1.elim
end
inductive Sk where
  | L | T
def Sq2 (K : PySem.W.Frag) (H : Hp) : Sk → Addr → List V → Prop
  | .L, a, xs => SqL K H a xs
  | .T, a, xs => SqT K H a xs
def IsIt (h : Heap) : Sk → Addr → Addr → Nat → Prop
  | .L, it, a, i => h.IsListIter it a i
  | .T, it, a, i => h.IsTupleIter it a i
def IsSq (h : Heap) : Sk → Addr → Array Value → Prop
  | .L, a, xs => h.IsList a xs
  | .T, a, xs => h.IsTuple a xs
theorem IsIt.kept {h h' : Heap} {k : Sk} {it a : Addr} {i : Nat} (x : IsIt h k it a i) (q : ∀ o, h.get? it = some o → h'.get? it = some o) : IsIt h' k it a i := by
  cases k with
  | L => exact Heap.IsListIter.at x q
  | T => exact Heap.IsTupleIter.at x q
theorem IsIt.obj {h : Heap} {k : Sk} {it a : Addr} {i : Nat} (x : IsIt h k it a i) : ∃ o, h.get? it = some o ∧ ∀ v, o.data ≠ .cell v := by
  cases k with
  | L => obtain ⟨o, e, _, d⟩ := x; exact ⟨o, e, fun v z => by rw [d] at z; cases z⟩
  | T => obtain ⟨o, e, _, d⟩ := x; exact ⟨o, e, fun v z => by rw [d] at z; cases z⟩
theorem drawsK {P : Program} {w : World} {A : Around} (k : Sk) (hh : A.handled = none) (it a : Addr) (hne : a ≠ it) (items : Array Value) :
    Draws P w A it [it, a] items.size (fun i v => items[i]? = some v) (fun i h => IsIt h k it a i ∧ IsSq h k a items) := by
  cases k with
  | L => exact Draws.list hh it a hne items
  | T => exact Draws.tuple hh it a hne items
theorem Sq2.inv {X : Cx} {pins : List (Addr × Obj)} {σ : L2.St} {H : Hp} {s : Shared} {k : Sk} {a : Addr} {xs : List V} (I : Inv X pins σ H s) (h : Sq2 X.K H k a xs) : ∃ its : List Value, Vals xs its ∧ IsSq s.heap k a its.toArray ∧ a < s.heap.objs.size := by
  cases k with
  | L =>
    obtain ⟨its, r, p, _⟩ := I.list h
    exact ⟨its, r, p.isList, p.lt⟩
  | T =>
    obtain ⟨its, r, p, _⟩ := I.tuple h
    obtain ⟨o, ho, q⟩ := id p
    exact ⟨its, r, p, Heap.lt_size ho⟩
theorem Sq2.inj {X : Cx} {pins : List (Addr × Obj)} {σ : L2.St} {H : Hp} {s : Shared} {k : Sk} {a : Addr} {xs ys : List V} (I : Inv X pins σ H s) (h : Sq2 X.K H k a xs) (h' : Sq2 X.K H k a ys) : xs = ys := by
  cases k with
  | L => exact I.list_inj h h'
  | T => exact I.tuple_inj h h'
def ItM (K : PySem.W.Frag) (k : Sk) (a : Addr) (k2 : Sk) (b : Addr) : It :=
  ⟨fun i H => ∃ (xs ys : List V) (x y : V), Sq2 K H k a xs ∧ Sq2 K H k2 b ys ∧ xs[i]? = some x ∧ ys[i]? = some y,
    fun i H v H' => ∃ T x y, v = .ref T ∧ H T = none ∧ H' = upd H T (.tup [x, y]) ∧ (∀ xs, Sq2 K H k a xs → xs[i]? = some x) ∧ ∀ ys, Sq2 K H k2 b ys → ys[i]? = some y,
    fun i H => ∃ xs ys : List V, Sq2 K H k a xs ∧ Sq2 K H k2 b ys ∧ i = min xs.length ys.length⟩
theorem turn_zipM {P : Program} {w : World} {K : PySem.W.Frag} {elts : List Expr} {kk : Nat} {tpos : Pos} {k k2 : Sk} {a b : Addr} {N : Nat} (ha : a < N) (hb : b < N) :
    Turn P w K (.Tuple elts kk tpos) (ItM K k a k2 b) [N + 4, N + 2, N + 3, N, N + 1] (N + 4)
      (fun i h => IsZip h (N + 4) (N + 2) (N + 3) .none ∧ IsTupOf2 h (N + 2) (.ref N) (.ref (N + 1)) ∧ (∃ x y, IsTupOf2 h (N + 3) x y) ∧ IsIt h k N a i ∧ IsIt h k2 (N + 1) b i) where
  mem := by simp
  obj := fun i h st c hc => by
    obtain ⟨hz, hTI, ⟨x, y, hTO⟩, h1, h2⟩ := st
    simp only [List.mem_cons, List.not_mem_nil, or_false] at hc
    rcases hc with q | q | q | q | q
    all_goals subst q
    · exact ⟨_, hz, fun v q => nomatch q⟩
    · exact ⟨_, hTI, fun v q => nomatch q⟩
    · exact ⟨_, hTO, fun v q => nomatch q⟩
    · exact h1.obj
    · exact h2.obj
  keep := fun i h h' st q => by
    obtain ⟨hz, hTI, ⟨x, y, hTO⟩, h1, h2⟩ := st
    exact ⟨q _ (by simp) _ hz, q _ (by simp) _ hTI, ⟨x, y, q _ (by simp) _ hTO⟩, h1.kept fun o e => q _ (by simp) o e, h2.kept fun o e => q _ (by simp) o e⟩
  item := by
    intro X hP hw hK hc i pins s σ H E I hf st hg
    subst hP hw hK
    obtain ⟨hz, hTI, hTO, h1, h2⟩ := st
    obtain ⟨xs, ys, x, y, hqx, hqy, hx, hy⟩ := hg
    obtain ⟨its, rv, p, _⟩ := Sq2.inv I hqx
    obtain ⟨its2, rv2, p2, _⟩ := Sq2.inv I hqy
    have hh : X.A.in1.handled = none := I.ok.hd hc
    have GG := GoesN.zip2 (prog := X.prog) (w := X.w) (A := X.A) (elts := elts) (x1 := kk) (pos := tpos) (zip_sep2 (N := N) (fp1 := [a]) (fp2 := [b]) (fun c q => by rw [List.mem_singleton.mp q]; exact ha) (fun c q => by rw [List.mem_singleton.mp q]; exact hb))
      (drawsK k hh N a (Nat.ne_of_lt ha) its.toArray) (drawsK k2 hh (N + 1) b (Nat.ne_of_lt (Nat.lt_succ_of_lt hb)) its2.toArray)
    have li : i < its.length := by rw [← rv.length]; exact (List.getElem?_eq_some_iff.mp hx).1
    have li2 : i < its2.length := by rw [← rv2.length]; exact (List.getElem?_eq_some_iff.mp hy).1
    refine GG.goes i s _ E (by simp only [List.size_toArray]; exact Nat.lt_min.mpr ⟨li, li2⟩) ⟨hz, hTI, hTO, ⟨h1, p⟩, ⟨h2, p2⟩⟩ fun v h' tk hY st' hk _ => ?_
    obtain ⟨T, u, u2, rfl, hT, hu, hu2, hIs⟩ := hY
    obtain ⟨w1, e1, ru⟩ := rv.get hx
    obtain ⟨w2, e2, ru2⟩ := rv2.get hy
    have eu : u = w1 := by
      have : its[i]? = some u := by simpa using hu
      rw [e1] at this; exact (Option.some.inj this).symm
    have eu2 : u2 = w2 := by
      have : its2[i]? = some u2 := by simpa using hu2
      rw [e2] at this; exact (Option.some.inj this).symm
    subst eu eu2
    have new : ObjOk X.prog X.w (upd H T (.tup [x, y])) h' T (.tup [x, y]) := ⟨by show 2 ≤ sizeLine; decide, [u, u2], .cons ru (.cons ru2 .nil), hIs⟩
    obtain ⟨z', TI', TO', ⟨h1', _⟩, ⟨h2', _⟩⟩ := st'
    have fresh : ∀ c, c ∈ [N + 4, N + 2, N + 3, N, N + 1] → c ≠ T := fun c hcm e => by
      have hlt : c < s.heap.objs.size := by
        simp only [List.mem_cons, List.not_mem_nil, or_false] at hcm
        obtain ⟨x0, y0, hTO⟩ := hTO
        rcases hcm with q | q | q | q | q
        all_goals subst q
        · exact Heap.lt_size hz
        · exact Heap.lt_size hTI
        · exact Heap.lt_size hTO
        · obtain ⟨o, e, _⟩ := h1.obj; exact Heap.lt_size e
        · obtain ⟨o, e, _⟩ := h2.obj; exact Heap.lt_size e
      rw [e] at hlt
      exact absurd (Nat.lt_of_lt_of_le hlt hT) (Nat.lt_irrefl _)
    refine ⟨.ref T, upd H T (.tup [x, y]), I.turnedNew (t' := tk) (ch := [N + 4, N + 2, N + 3, N, N + 1]) (fun c o hb e => hk c o (fun z => hb ?_) e) hf hT new, rfl,
      ⟨T, x, y, rfl, I.hok.fresh hT, rfl, fun l hl => by rw [Sq2.inj I hl hqx]; exact hx, fun l hl => by rw [Sq2.inj I hl hqy]; exact hy⟩, ⟨z', TI', TO', h1', h2'⟩, fun c hcm => by rw [upd_ne (fresh c hcm)]; exact (hf c hcm).1⟩
    simp only [List.mem_cons, List.not_mem_nil, or_false] at z ⊢
    rcases z with q | q | q | q <;> simp [q]
  done := by
    intro X hP hw hK hc i pins s σ H E I hf st hg
    subst hP hw hK
    obtain ⟨hz, hTI, hTO, h1, h2⟩ := st
    obtain ⟨xs, ys, hqx, hqy, hend⟩ := hg
    obtain ⟨its, rv, p, _⟩ := Sq2.inv I hqx
    obtain ⟨its2, rv2, p2, _⟩ := Sq2.inv I hqy
    have hh : X.A.in1.handled = none := I.ok.hd hc
    have GG := GoesN.zip2 (prog := X.prog) (w := X.w) (A := X.A) (elts := elts) (x1 := kk) (pos := tpos) (zip_sep2 (N := N) (fp1 := [a]) (fp2 := [b]) (fun c q => by rw [List.mem_singleton.mp q]; exact ha) (fun c q => by rw [List.mem_singleton.mp q]; exact hb))
      (drawsK k hh N a (Nat.ne_of_lt ha) its.toArray) (drawsK k2 hh (N + 1) b (Nat.ne_of_lt (Nat.lt_succ_of_lt hb)) its2.toArray)
    have ei : i = min its.toArray.size its2.toArray.size := by simp only [List.size_toArray, ← rv.length, ← rv2.length]; exact hend
    refine GG.stops s (fun s1 => Inv X pins σ H s1) E (by rw [← ei]; exact ⟨hz, hTI, hTO, ⟨h1, p⟩, ⟨h2, p2⟩⟩) fun h' tk hk _ => I.turnedL (t' := tk) (ch := [N + 4, N + 2, N + 3, N, N + 1]) (fun c o hb e => hk c o (fun z => hb ?_) e) hf
    simp only [List.mem_cons, List.not_mem_nil, or_false] at z ⊢
    rcases z with q | q | q | q <;> simp [q]
  self := fun A i s Q E st h => wpAny_pyIter_zip st.1 h
abbrev itO : Sk → Addr → Obj
  | .L, a => { cls := .type "list_iterator", data := .fields #[.ref a, .int 0 0] }
  | .T, a => { cls := .type "tuple_iterator", data := .fields #[.ref a, .int 0 0] }
theorem beginsK (k : Sk) (a : Addr) (items : Array Value) : Begins (.ref a) (itO k a) fun h => IsSq h k a items := by
  cases k with
  | L => exact begins_list a items
  | T => exact begins_tuple a items
theorem itO_at {h : Heap} {k : Sk} {it a : Addr} (e : h.get? it = some (itO k a)) : IsIt h k it a 0 := by
  cases k with
  | L => exact ⟨_, e, rfl, rfl⟩
  | T => exact ⟨_, e, rfl, rfl⟩
section
variable {g : Gd} {X : Cx} {W : WX} {n : Nat} {pos tpos : Pos} {e e2 : Expr} {elts : List Expr} {kk : Nat}
def iZipM (K : PySem.W.Frag) (ta : TA) : TI := fun σ H R => ta σ H fun vs H1 => ∃ a b k k2 xs ys, vs = [.ref a, .ref b] ∧ Sq2 K H1 k a xs ∧ Sq2 K H1 k2 b ys ∧ R (ItM K k a k2 b) H1
theorem pi_zipM {ta : TA} {p : Pos} (hg : Gl X "zip") (hm : X.mg "zip" = none) (ha : PA X [e, e2] ta) (hs : starEach [e, e2] X.env = (false, eval e X.env) :: starEach [e2] X.env) (hpl : (backTo pos (starEach [e2] X.env)).any (·.1) = false) :
    PI X (.Tuple elts kk tpos) (.Call (.Name "zip" p) [e, e2] [] pos) (iZipM X.K ta) := by
  constructor
  intro pins s σ H R I h
  refine Call_ (ld_blt I hg hm PyProof.Rows.boot_zip (PyProof.Rows.callWith_type1 (thn (ha.run pos pins s σ H _ I h) ?_) hs hpl))
  rintro us s1 ⟨vs, H1, I1, r1, a, b, k, k2, xs, ys, rfl, hqx, hqy, q⟩
  obtain ⟨u1, u2, rfl, ru1, ru2⟩ := vals2 r1
  cases ru1
  cases ru2
  obtain ⟨its, rv, p1, l1⟩ := Sq2.inv I1 hqx
  obtain ⟨its2, rv2, p2, l2⟩ := Sq2.inv I1 hqy
  refine zip_begins2 (beginsK k a its.toArray) (beginsK k2 b its2.toArray) p1 p2 fun h' hz hTI hTO o1 o2 hsz hk => wpAny_pyIter_zip hz ?_
  refine ⟨_, [s1.heap.objs.size + 4, s1.heap.objs.size + 2, s1.heap.objs.size + 3, s1.heap.objs.size, s1.heap.objs.size + 1], _, _, H1, rfl, I1.kept (t' := s1.toks) hk, turn_zipM l1 l2, ⟨hz, hTI, ⟨_, _, hTO⟩, itO_at o1, itO_at o2⟩, fun c hc => ?_, q⟩
  have hle : s1.heap.objs.size ≤ c := by
    simp only [List.mem_cons, List.not_mem_nil, or_false] at hc
    rcases hc with z | z | z | z | z <;> subst z <;> first | exact Nat.le_add_right _ _ | exact Nat.le_refl _
  exact I1.fpOk hle (I1.hok.fresh hle)
/-- a part of a zip -/
def Cmp (g : Gd) (ρ : List Addr) (H : Hp) : It' → Sk → Addr → Prop
  | .lst r, k, a => k = .L ∧ ρ[r]? = some a
  | .tup xs, k, a => k = .T ∧ ∃ vs, SqN g.K H a vs ∧ Rvs g ρ H xs vs
  | _, _, _ => False
theorem Cmp.at {ρ ρ1 : List Addr} {H H1 : Hp} {hp hp1 : Hs} {it : It'} {k : Sk} {a : Addr} {i : Nat} {o : Option Va} (R : Rh g ρ H hp) (c : Cmp g ρ H it k a) (S1 : Sp1 ρ H ρ1 H1) (R1 : Rh g ρ1 H1 hp1) (hq : nxt it i hp1 = some o) :
    ∃ ws, Sq2 g.K H1 k a ws ∧ itLen it hp1 = ws.length ∧ (o = none → ws[i]? = none) ∧ ∀ v, o = some v → ∃ x, ws[i]? = some x ∧ Rv g ρ1 H1 v x := by
  cases it with
  | lst r =>
    obtain ⟨rfl, ha⟩ := c
    unfold nxt at hq
    split at hq
    · rename_i xs hx
      obtain ⟨vs, e, rv⟩ := R1.obj r a _ (pre_get S1.pre ha) hx
      cases hq
      refine ⟨vs, .inl (.inl e), ?_, fun e2 => rv.none_of e2, fun v e2 => rv.get e2⟩
      simp only [itLen, hx]
      exact rv.length
    · cases hq
  | tup xs =>
    obtain ⟨rfl, vs, ht, rv⟩ := c
    have rv1 := Rvs.step R S1 _ _ rv
    unfold nxt at hq
    cases hq
    exact ⟨vs, (SqN.step R S1 ht).sqT, rv.length, fun e2 => rv1.none_of e2, fun v e2 => rv1.get e2⟩
  | _ => exact c.elim
theorem rit_zip {ρ : List Addr} {H : Hp} {hp : Hs} {it it2 : It'} {k k2 : Sk} {a b : Addr} (R : Rh g ρ H hp) (c : Cmp g ρ H it k a) (c2 : Cmp g ρ H it2 k2 b) : Rit g ρ H true (.zip it it2) (ItM g.K k a k2 b) := by
  intro i ρ1 H1 hp1 o S1 R1 hq
  unfold nxt at hq
  by_cases hl : (decide (i ≤ itLen it hp1) && decide (i ≤ itLen it2 hp1)) = true
  · rw [if_pos hl] at hq
    rw [Bool.and_eq_true, decide_eq_true_eq, decide_eq_true_eq] at hl
    cases q1 : nxt it i hp1 with
    | none => rw [q1] at hq; cases hq
    | some o1 =>
      obtain ⟨ws, sq, ln, n1, s1⟩ := c.at R S1 R1 q1
      have stop : ∀ {ws2 : List V}, Sq2 g.K H1 k2 b ws2 → itLen it2 hp1 = ws2.length → (ws.length ≤ i ∨ ws2.length ≤ i) → (ItM g.K k a k2 b).stop i H1 := fun {ws2} sq2 ln2 h => ⟨ws, ws2, sq, sq2, by omega⟩
      cases q2 : nxt it2 i hp1 with
      | none => rw [q1, q2] at hq; cases hq
      | some o2 =>
        obtain ⟨ws2, sq2, ln2, n2, s2⟩ := c2.at R S1 R1 q2
        rw [q1, q2] at hq
        cases o1 with
        | none =>
          cases hq
          have := n1 rfl
          rw [List.getElem?_eq_none_iff] at this
          exact stop sq2 ln2 (.inl this)
        | some v =>
          cases o2 with
          | none =>
            cases hq
            have := n2 rfl
            rw [List.getElem?_eq_none_iff] at this
            exact stop sq2 ln2 (.inr this)
          | some v2 =>
            cases hq
            obtain ⟨x, ex, rx⟩ := s1 v rfl
            obtain ⟨y, ey, ry⟩ := s2 v2 rfl
            refine ⟨⟨ws, ws2, x, y, sq, sq2, ex, ey⟩, fun z H2 hy => ?_⟩
            obtain ⟨T, x', y', rfl, hT, rfl, f1, f2⟩ := hy
            have e1 := f1 ws sq
            have e2 := f2 ws2 sq2
            rw [ex] at e1; cases e1
            rw [ey] at e2; cases e2
            obtain ⟨S2, R2⟩ := R1.laid (u := .tup [x, y]) hT
            exact ⟨S2, R2, .inr ⟨[v, v2], [x, y], T, rfl, rfl, .inl (.inl upd_same), Rvs.step R1 S2 _ _ (Rvs.cons rx (Rvs.one ry))⟩⟩
  · rw [if_neg hl] at hq; cases hq
def pairIt (x y : Va) (h : Hs) : Rs It' := (itOf x h).bind fun a h1 => (itOf y h1).bind fun b h2 => .ok (.zip a b) h2
/-- a part of a zip, by its value -/
theorem cmp_of {ρ : List Addr} {H : Hp} {hp h' : Hs} {v : Va} {x : V} {it : It'} (R : Rh g ρ H hp) (r : Rv g ρ H v x) (e : itOf v hp = .ok it h') (hs : ∀ z, v ≠ .str z) : h' = hp ∧ ∃ k a xs, x = .ref a ∧ Cmp g ρ H it k a ∧ Sq2 g.K H k a xs := by
  cases v with
  | tup xs =>
    cases e
    simp only [Rv] at r
    obtain ⟨a, vs, rfl, ht, rv⟩ := r
    exact ⟨rfl, .T, a, vs, rfl, ⟨rfl, vs, ht, rv⟩, ht.sqT⟩
  | ref i =>
    simp only [Rv] at r
    obtain ⟨a, ha, rfl⟩ := r
    unfold itOf at e
    simp only at e
    split at e
    · rename_i xs hx
      cases e
      obtain ⟨vs, e2, rv⟩ := R.obj i a _ ha hx
      exact ⟨rfl, .L, a, vs, rfl, ⟨rfl, ha⟩, .inl (.inl e2)⟩
    · cases e
  | str z => exact absurd rfl (hs z)
  | _ => exact nomatch e
/-- no texts in a zip -/
def noStr : Va → Bool
  | .str _ => false
  | _ => true
def dZipS (f : Da) : Di := fun s h => (f s h).bind fun vs h1 => match vs with
  | [x, y] => if noStr x && noStr y then pairIt x y h1 else .no
  | _ => .no
theorem i_zip {f : Da} {p : Pos} (hm : X.mg "zip" = none) (ha : SA g X W n [e, e2] f) (hg : Gl X "zip" := by rfl) (hs : starEach [e, e2] X.env = (false, eval e X.env) :: starEach [e2] X.env := by rfl) (hpl : (backTo pos (starEach [e2] X.env)).any (·.1) = false := by rfl) :
    SI g X W n true (.Tuple elts kk tpos) (.Call (.Name "zip" p) [e, e2] [] pos) (dZipS f) := by
  intro C
  refine (pi_zipM hg hm (ha C) hs hpl).imp ?_
  rintro σ H Rr ⟨ρ, s, hp, R, L, h⟩
  rw [C.K]
  refine iBA h R L fun v h1 ρ1 H1 x e1 S1 R1 r1 L1 p1 => ?_
  split at p1
  · rename_i v1 v2
    by_cases ns : (noStr v1 && noStr v2) = true
    · rw [if_pos ns] at p1
      rw [Bool.and_eq_true] at ns
      have n1 : ∀ z, v1 ≠ .str z := fun z q => by rw [q] at ns; exact nomatch ns.1
      have n2 : ∀ z, v2 ≠ .str z := fun z q => by rw [q] at ns; exact nomatch ns.2
      simp only [Rvs] at r1
      obtain ⟨x1, r, rfl, q1, x2, r', rfl, q2, rfl⟩ := r1
      unfold pairIt at p1
      cases t1 : itOf v1 h1 with
      | no => rw [t1] at p1; exact p1.elim
      | ex c hh =>
        exfalso
        unfold itOf at t1
        split at t1 <;> first | cases t1 | (split at t1 <;> cases t1)
      | ok it hh =>
        obtain ⟨rfl, k, a, xs, rfl, c1, sq1⟩ := cmp_of R1 q1 t1 n1
        rw [t1] at p1
        simp only [Rs.bind] at p1
        cases t2 : itOf v2 hh with
        | no => rw [t2] at p1; exact p1.elim
        | ex c hh =>
          exfalso
          unfold itOf at t2
          split at t2 <;> first | cases t2 | (split at t2 <;> cases t2)
        | ok it2 hh2 =>
          obtain ⟨rfl, k2, b, ys, rfl, c2, sq2⟩ := cmp_of R1 q2 t2 n2
          rw [t2] at p1
          exact ⟨a, b, k, k2, xs, ys, rfl, sq1, sq2, p1 ρ1 H1 _ (.refl _ _) R1 (rit_zip R1 c1 c2)⟩
    · rw [if_neg ns] at p1; exact p1.elim
  · exact p1.elim
end
end Wr
set_option Elab.async false
set_option linter.all false
set_option maxRecDepth 100000
set_option maxHeartbeats 4000000
set_option autoImplicit false
namespace Wr
open PySem PySem.Spec PyProof.Rows L2
abbrev W0 : WX := fun _ _ _ _ => False
theorem Cz.blk {g : Gd} {X : Cx} {W : WX} {n : Nat} (C : Cz g X W (n + 1)) (s : Shared) (H : Hp) (sc : Scope) (ce : Env) (fp : List Addr) : Cz g (X.blk s H sc ce fp) W0 (n + 1) :=
  Cz.mk1 C.K takes0 C.calm C.nd C.room PassesOwn.never
def STs (g : Gd) (X : Cx) (W : WX) (n : Nat) (es : List Expr) (f : Dt) : Prop := Cz g X W n → PTs X es (tT g W f)
theorem _root_.L2.PTs.imp {X : Cx} {e : List Expr} {t t' : TT} (h : PTs X e t) (q : ∀ σ H Q, t' σ H Q → t σ H Q) : PTs X e t' := ⟨fun pins s σ H Q I w => h.run pins s σ H Q I (q _ _ _ w)⟩
section
variable {g : Gd} {X : Cx} {W : WX} {n : Nat} {pos : Pos} {tg iter elt : Expr} {ifs : List Expr}
def dYes : Dt := fun _ h => .ok true h
theorem ts_nil : STs g X W n [] dYes := fun _ => pts_nil.imp fun σ H Q ⟨ρ, s, hp, R, L, h⟩ => h ρ H (.refl _ _) R
theorem ts_one {c : Expr} {f : Dt} (h : ST g X W n c f) : STs g X W n [c] f := fun C => pts_one (h C)
def compL (it : It') (t : Tg) (test : Dt) (el : De) (s : Sg) : Nat → Nat → Hs → Rs (List Va)
  | 0, _, _ => .no
  | f + 1, i, h => match nxt it i h with
    | none => .no
    | some none => .ok [] h
    | some (some v) => match setT t v s h with
      | none => .no
      | some s1 => match test s1 h with
        | .ok true h1 => match el s1 h1 with
          | .ok y h2 => match compL it t test el s f (i + 1) h2 with
            | .ok ys h3 => .ok (y :: ys) h3
            | .ex _ _ => .no
            | .no => .no
          | .ex _ _ => .no
          | .no => .no
        | .ok false h1 => compL it t test el s f (i + 1) h1
        | .ex _ _ => .no
        | .no => .no
def dComp (own : List Nat) (di : Di) (t : Tg) (test : Dt) (el : De) : De := fun s h => (di s h).bind fun it h1 => (compL it t test el (wipeS s own) (itLen it h1 + 1) 0 h1).bind mkL
theorem comp_imp {b : Bool} {own : List Nat} {di : Di} {t : Tg} {test : Dt} {el : De} (hsl : ∀ i ∈ t.slots, i ∈ own) {σ : L2.St} {H : Hp} {Q : VK} (h : tE g W (dComp own di t test el) σ H Q) :
    tLc (tI g W b di) (tG g b t) (tT g W0 test) (tE g W0 el) own σ H Q := by
  obtain ⟨ρ, s, hp, R, L, h⟩ := h
  refine ⟨ρ, s, hp, R, L, ?_⟩
  unfold dComp at h
  cases q : di s hp with
  | no => rw [q] at h; exact h
  | ex c h1 => rw [q] at h; exact h
  | ok it h1 =>
    rw [q] at h
    simp only [Rs.bind] at h
    intro ρ0 H0 J S0 R0 hJ D hD
    have h0 := PoE.at h S0
    have L0 := L.step R S0
    -- the list so far stands at D, which is not ours yet
    refine ⟨fun i m H1 => ∃ ρ1 h2 acc accV, Sp1 ρ0 H0 ρ1 H1 ∧ Rh g ρ1 H1 h2 ∧ D ∉ ρ1 ∧ H1 D = some (.lst accV) ∧ Rvs g ρ1 H1 acc accV ∧
      PoE g ρ0 H0 ((compL it t test el (wipeS s own) m i h2).bind fun ys h3 => mkL (acc ++ ys) h3) Q (EW W σ), ⟨itLen it h1 + 1, ?_⟩, ?_⟩
    · obtain ⟨S1, R1⟩ := R0.laid (u := .lst []) hD
      refine ⟨ρ0, h1, [], [], S1, R1, fun z => ?_, upd_same, Rvs.nil, h0⟩
      have := R0.mut z
      rw [hD] at this; exact this
    rintro i m H1 ⟨ρ1, h2, acc, accV, S1, R1, nD, eD, rv, p1⟩
    cases m with
    | zero => exact p1.elim
    | succ m =>
      unfold compL at p1
      split at p1
      · exact p1.elim
      · rename_i hq
        refine .inl ⟨hJ i ρ1 H1 h2 none S1 R1 hq, ?_⟩
        simp only [Rs.bind, mkL, List.append_nil] at p1
        by_cases hz : okN acc.length = true
        · rw [if_pos hz] at p1
          have R2 := R1.take nD eD rv
          refine p1 (ρ1 ++ [D]) H1 (.ref D) ⟨S1.pre.trans (List.prefix_append _ _), fun b hb => ?_, S1.keep, S1.frz⟩ R2 ?_
          · rcases List.mem_append.mp hb with z | z
            · exact S1.new b z
            · rw [List.mem_singleton.mp z]; exact .inr (new_none hD)
          · simp only [Rv]
            exact ⟨D, by rw [← R1.len]; simp, rfl⟩
        · rw [if_neg hz] at p1; exact p1.elim
      · rename_i v hq
        obtain ⟨hgo, hy⟩ := hJ i ρ1 H1 h2 (some v) S1 R1 hq
        refine .inr ⟨hgo, fun H' => ∃ ρ1 h2 acc accV, Sp1 ρ0 H0 ρ1 H' ∧ Rh g ρ1 H' h2 ∧ D ∉ ρ1 ∧ H' D = some (.lst accV) ∧ Rvs g ρ1 H' acc accV ∧
          PoE g ρ0 H0 ((compL it t test el (wipeS s own) m (i + 1) h2).bind fun ys h3 => mkL (acc ++ ys) h3) Q (EW W σ), fun H' w => ⟨m, Nat.lt_succ_self m, w⟩, fun x H2 hyl => ?_⟩
        obtain ⟨S2, R2, ry⟩ := hy x H2 hyl
        have eD2 := S2.keep _ _ eD nD (fun _ z => nomatch z)
        have rv2 := Rvs.step R1 S2 _ _ rv
        have S12 := S1.trans S2
        have L2' : Rsl g ρ1 H2 (wipeS s own) (wipe σ own) := ((L0.wipe own).step R0 S12)
        split at p1
        · exact p1.elim
        · rename_i s2 hset
          refine ⟨ρ1, wipeS s own, h2, v, s2, R2, L2', ry, hset, fun σ' L' A => ⟨?_, ?_⟩⟩
          · rw [A own hsl]
            exact wipe_wipe σ own own fun _ z => z
          refine ⟨ρ1, s2, h2, R2, L', ?_⟩
          cases qt : test s2 h2 with
          | no => rw [qt] at p1; exact p1.elim
          | ex c h3 => rw [qt] at p1; exact p1.elim
          | ok bt h3 =>
            rw [qt] at p1
            intro ρ3 H3 S3 R3
            have nD3 : D ∉ ρ3 := fun z => by
              rcases S3.new D z with w | w
              · exact nD w
              · exact w _ eD2 (fun _ z => nomatch z)
            have eD3 := S3.keep _ _ eD2 nD (fun _ z => nomatch z)
            have rv3 := Rvs.step R2 S3 _ _ rv2
            have S13 := S12.trans S3
            cases bt with
            | false =>
              simp only at p1
              exact ⟨ρ3, h3, acc, accV, S13, R3, nD3, eD3, rv3, p1⟩
            | true =>
              refine ⟨ρ3, s2, h3, R3, L'.step R2 S3, ?_⟩
              simp only at p1
              cases qe : el s2 h3 with
              | no => rw [qe] at p1; exact p1.elim
              | ex c h4 => rw [qe] at p1; exact p1.elim
              | ok y h4 =>
                rw [qe] at p1
                intro ρ4 H4 z S4 R4 rz
                have nD4 : D ∉ ρ4 := fun w => by
                  rcases S4.new D w with w | w
                  · exact nD3 w
                  · exact w _ eD3 (fun _ z => nomatch z)
                have eD4 := S4.keep _ _ eD3 nD3 (fun _ z => nomatch z)
                have rv4 := Rvs.step R3 S4 _ _ rv3
                have S14 := S13.trans S4
                simp only at p1
                have T : Tst g H4 (upd H4 D (.lst (accV ++ [z]))) := Tst.upd eD4
                -- the list's length
                have hlen : accV.length < sizeLine := by
                  cases qc : compL it t test el (wipeS s own) m (i + 1) h4 with
                  | no => rw [qc] at p1; exact p1.elim
                  | ex c h5 => rw [qc] at p1; exact p1.elim
                  | ok ys h5 =>
                    rw [qc] at p1
                    simp only [Rs.bind, mkL] at p1
                    by_cases hz : okN (acc ++ y :: ys).length = true
                    · have := okN_le hz
                      rw [← rv4.length]
                      simp at this
                      omega
                    · rw [if_neg hz] at p1; exact p1.elim
                refine ⟨accV, eD4, hlen, ρ4, h4, acc ++ [y], accV ++ [z], ?_, R4.other T nD4 (fun u z => by rw [eD4] at z; cases z; trivial), nD4, upd_same, Rvs.tst T (List.prefix_refl _) _ _ (rv4.append (Rvs.one rz)), ?_⟩
                · have hne : ∀ b o, H0 b = some o → b ≠ D := fun b o hb z => by rw [z, hD] at hb; cases hb
                  exact ⟨S14.pre, S14.new, fun b o hb hn nt => by rw [upd_ne (hne b o hb)]; exact S14.keep b o hb hn nt, fun b o u hb => by rw [upd_ne (hne b _ hb)]; exact S14.frz b o u hb⟩
                · cases qc : compL it t test el (wipeS s own) m (i + 1) h4 with
                  | no => rw [qc] at p1; exact p1.elim
                  | ex c h5 => rw [qc] at p1; exact p1.elim
                  | ok ys h5 =>
                    rw [qc] at p1
                    simp only [Rs.bind] at p1 ⊢
                    rw [List.append_assoc]
                    exact p1
def subL (a b : List Nat) : Bool := a.all fun i => b.contains i
theorem subL_ok {a b : List Nat} (h : subL a b = true) : ∀ i ∈ a, i ∈ b := fun i hi => by
  have := List.all_eq_true.mp h i hi
  exact List.contains_iff_mem.mp this
/-- [elt for target in iter if ..] -/
theorem e_comp {b : Bool} {scope : Scope} (own : List (Str × Nat)) {di : Di} {t : Tg} {test : Dt} {el : De} (hi : SI g X W (n + 1) b tg iter di) (ok : BlkOk X.N X.env.scope scope own)
    (hg : ∀ (s : Shared) (H : Hp) (C : Addr) (cl : List (Str × Addr)) (fp : List Addr), SG g (X.blk s H scope (compEnvC scope cl C X.env) fp) b tg t)
    (ht : ∀ (s : Shared) (H : Hp) (C : Addr) (cl : List (Str × Addr)) (fp : List Addr), STs g (X.blk s H scope (compEnvC scope cl C X.env) fp) W0 (n + 1) ifs test)
    (he : ∀ (s : Shared) (H : Hp) (C : Addr) (cl : List (Str × Addr)) (fp : List Addr), SE g (X.blk s H scope (compEnvC scope cl C X.env) fp) W0 (n + 1) elt el)
    (hsl : subL t.slots (own.map (·.2)) = true := by rfl) (hs : ∀ x, foldedSetIterable iter X.env x = pure x := by intro _; rfl) :
    SE g X W (n + 1) (.ListComp elt [⟨tg, iter, ifs, 0⟩] scope pos) (dComp (own.map (·.2)) di t test el) := by
  intro C
  refine (pe_lc C.calm C.nd (hi C) ok (fun s H c cl fp => hg s H c cl fp C.K C.calm C.nd) (fun s H c cl fp => ht s H c cl fp (C.blk ..)) (fun s H c cl fp => he s H c cl fp (C.blk ..)) hs).imp ?_
  exact fun σ H Q h => comp_imp (subL_ok hsl) h
end
def toRs : RS → Rs Va
  | .nx _ h => .ok .non h
  | .rt v h => .ok v h
  | .ex c _ h => .ex c h
  | .bk _ _ => .no
  | .ct _ _ => .no
  | .no => .no
/-- what the callee made and nobody sees any more is dropped -/
def lastM (n0 : Nat) (v : Va) (h : Hs) : List Nat := List.range n0 ++ (reach 300 h (refsV v ++ (h.take n0).flatMap refsO) []).filter (fun i => decide (n0 ≤ i))
def compact (n0 : Nat) : Rs Va → Rs Va
  | .ok v h => if h.length == n0 then .ok v h else
      let m := lastM n0 v h
      if nodupB m then match ren (idx m) v with
        | some v' => match selO m h m with
          | some h' => .ok v' h'
          | none => .no
        | none => .no
      else .no
  | .ex c h => .ex c h
  | .no => .no
theorem range_take {m : List Nat} {n0 : Nat} {l : List Nat} (h : m = List.range n0 ++ l) (ρ1 : List Addr) (hl : n0 ≤ ρ1.length) : ρ1.take n0 <+: pickA ρ1 m := by
  subst h
  have : pickA ρ1 (List.range n0 ++ l) = ρ1.take n0 ++ pickA ρ1 l := by
    unfold pickA
    rw [List.map_append]
    congr 1
    apply List.ext_getElem?
    intro i
    rw [List.getElem?_map, List.getElem?_take]
    by_cases hi : i < n0
    · rw [if_pos hi, List.getElem?_range hi]
      have : i < ρ1.length := by omega
      simp [List.getD, List.getElem?_eq_getElem this]
    · rw [if_neg hi, List.getElem?_eq_none (by simp; omega)]
      rfl
  rw [this]
  exact List.prefix_append _ _
theorem compact_ok {g : Gd} {ρ : List Addr} {H : Hp} {r : Rs Va} {Q : VK} {E : XK} (h : PoE g ρ H (compact ρ.length r) Q E) : PoE g ρ H r Q E := by
  cases r with
  | no => exact h
  | ex c h1 => exact h
  | ok v h1 =>
    unfold compact at h
    by_cases hl : (h1.length == ρ.length) = true
    · simp only at h
      rw [if_pos hl] at h
      exact h
    · simp only at h
      rw [if_neg hl] at h
      generalize hm : lastM ρ.length v h1 = m at h
      by_cases hn : nodupB m = true
      · rw [if_pos hn] at h
        split at h
        · rename_i v' hv
          split at h
          · rename_i h' hs
            intro ρ1 H1 x S1 R1 r1
            obtain ⟨R2, mv, sub, at_⟩ := sel_ok R1 (nodupB_ok hn) hs
            have hlen : ρ.length ≤ ρ1.length := S1.pre.length_le
            refine h (pickA ρ1 m) H1 x ⟨?_, fun b hb => S1.new b (sub b hb), S1.keep, S1.frz⟩ R2 (ren_ok mv _ _ _ r1 hv)
            have e : ρ1.take ρ.length = ρ := by
              obtain ⟨c, hc⟩ := S1.pre
              rw [← hc]; simp
            rw [← e]
            have q := range_take (l := _) (n0 := ρ.length) hm.symm ρ1 hlen
            rw [e] at q ⊢
            exact q
          · exact h.elim
        · exact h.elim
      · rw [if_neg hn] at h; exact h.elim
/-- the function of a def with nN names, whose body does b -/
def fnD (nN : Nat) (b : Ds) : Fn := fun args hp => compact hp.length (toRs (b (args.map some ++ List.replicate (nN - args.length) none) hp))
end Wr
set_option Elab.async false
set_option linter.all false
set_option maxRecDepth 100000
set_option maxHeartbeats 4000000
set_option autoImplicit false
namespace Wr
open PySem PySem.Spec PyProof.Rows L2
def mapO {α β : Type} (f : α → Option β) : List α → Option (List β)
  | [] => some []
  | x :: xs => match f x with
    | some y => match mapO f xs with
      | some ys => some (y :: ys)
      | none => none
    | none => none
def toD (h : Hs) : Nat → Va → Option PyData
  | _, .non => some .none
  | _, .bl b => some (.bool b)
  | _, .int i => some (.int i)
  | _, .str x => if PyData.canLay0 (.str x) then some (.str x) else none
  | n + 1, .tup xs => (mapO (toD h n) xs).map .tuple
  | n + 1, .ref i => match h[i]? with
    | some (.lst xs) => (mapO (toD h n) xs).map .list
    | _ => none
  | _, _ => none
section
variable {g : Gd} {ρ : List Addr} {H : Hp} {hp : Hs}
theorem mapO_dp {f : Va → Option PyData} (hf : ∀ x v d, Rv g ρ H x v → f x = some d → Dp g.K H v d) : ∀ (xs : List Va) (vs : List V) (ds : List PyData), Rvs g ρ H xs vs → mapO f xs = some ds → DpAll g.K H vs ds
  | [], _, _, r, e => by
    simp only [Rvs] at r
    subst r
    cases e
    exact .nil
  | x :: xs, _, _, r, e => by
    simp only [Rvs] at r
    obtain ⟨v, vr, rfl, r1, r2⟩ := r
    unfold mapO at e
    split at e
    · rename_i y hy
      split at e
      · rename_i ys hys
        cases e
        exact .cons (hf x v y r1 hy) (mapO_dp hf xs vr ys r2 hys)
      · cases e
    · cases e
theorem toD_dp (R : Rh g ρ H hp) : ∀ (n : Nat) (x : Va) (v : V) (d : PyData), Rv g ρ H x v → toD hp n x = some d → Dp g.K H v d
  | n, .non, _, _, r, e => by simp only [Rv] at r; subst r; cases n <;> (unfold toD at e; cases e; exact .non)
  | n, .bl b, _, _, r, e => by simp only [Rv] at r; subst r; cases n <;> (unfold toD at e; cases e; exact .bl b)
  | n, .int i, _, _, r, e => by simp only [Rv] at r; subst r; cases n <;> (unfold toD at e; cases e; exact .int i)
  | n, .str x, _, d, r, e => by
    simp only [Rv] at r
    subst r
    have e' : (if PyData.canLay0 (.str x) then some (PyData.str x) else none) = some d := by cases n <;> exact e
    split at e'
    · cases e'; exact .str x
    · cases e'
  | 0, .tup _, _, _, _, e => by unfold toD at e; cases e
  | n + 1, .tup xs, _, _, r, e => by
    simp only [Rv] at r
    obtain ⟨a, vs, rfl, ht, rv⟩ := r
    unfold toD at e
    obtain ⟨ds, hd, rfl⟩ := Option.map_eq_some_iff.mp e
    exact .tup ht.sqT (mapO_dp (fun x v d r e => toD_dp R n x v d r e) xs vs ds rv hd)
  | 0, .ref _, _, _, _, e => by unfold toD at e; cases e
  | n + 1, .ref i, _, _, r, e => by
    simp only [Rv] at r
    obtain ⟨a, ha, rfl⟩ := r
    unfold toD at e
    split at e
    · rename_i xs hx
      obtain ⟨vs, e2, rv⟩ := R.obj i a _ ha hx
      obtain ⟨ds, hd, rfl⟩ := Option.map_eq_some_iff.mp e
      exact .lst (.inl (.inl e2)) (mapO_dp (fun x v d r e => toD_dp R n x v d r e) xs vs ds rv hd)
    · cases e
  | n, .ty _, _, _, _, e => by cases n <;> (unfold toD at e; cases e)
  | n, .gl _, _, _, _, e => by cases n <;> (unfold toD at e; cases e)
  | n, .scr, _, _, _, e => by cases n <;> (unfold toD at e; cases e)
  | n, .exc _, _, _, _, e => by cases n <;> (unfold toD at e; cases e)
theorem mapO_lay {f : Va → Option PyData} {m : Nat} (hf : ∀ x d, f x = some d → d.canLay0 = true ∧ d.depth ≤ m) : ∀ (xs : List Va) (ds : List PyData), mapO f xs = some ds → PyData.canLayAll0 ds = true ∧ PyData.depthAll ds ≤ m
  | [], _, e => by cases e; simp [PyData.canLayAll0, PyData.depthAll]
  | x :: xs, _, e => by
    unfold mapO at e
    split at e
    · rename_i y hy
      split at e
      · rename_i ys hys
        cases e
        obtain ⟨h1, h2⟩ := hf x y hy
        obtain ⟨h3, h4⟩ := mapO_lay hf xs ys hys
        simp only [PyData.canLayAll0, PyData.depthAll, h1, h3, Bool.and_self, true_and]
        omega
      · cases e
    · cases e
theorem toD_lay : ∀ (n : Nat) (x : Va) (d : PyData), toD hp n x = some d → d.canLay0 = true ∧ d.depth ≤ n
  | n, .non, _, e => by cases n <;> (unfold toD at e; cases e; simp [PyData.canLay0, PyData.depth])
  | n, .bl b, _, e => by cases n <;> (unfold toD at e; cases e; simp [PyData.canLay0, PyData.depth])
  | n, .int i, _, e => by cases n <;> (unfold toD at e; cases e; simp [PyData.canLay0, PyData.depth])
  | n, .str x, d, e => by
    have e' : (if PyData.canLay0 (.str x) then some (PyData.str x) else none) = some d := by cases n <;> exact e
    split at e'
    · rename_i h
      cases e'
      exact ⟨h, by simp [PyData.depth]⟩
    · cases e'
  | 0, .tup _, _, e => by unfold toD at e; cases e
  | n + 1, .tup xs, _, e => by
    unfold toD at e
    obtain ⟨ds, hd, rfl⟩ := Option.map_eq_some_iff.mp e
    obtain ⟨h1, h2⟩ := mapO_lay (fun x d q => toD_lay n x d q) xs ds hd
    simp only [PyData.canLay0, PyData.depth]
    exact ⟨h1, by omega⟩
  | 0, .ref _, _, e => by unfold toD at e; cases e
  | n + 1, .ref i, _, e => by
    unfold toD at e
    split at e
    · rename_i xs hx
      obtain ⟨ds, hd, rfl⟩ := Option.map_eq_some_iff.mp e
      obtain ⟨h1, h2⟩ := mapO_lay (fun x d q => toD_lay n x d q) xs ds hd
      simp only [PyData.canLay0, PyData.depth]
      exact ⟨h1, by omega⟩
    · cases e
  | n, .ty _, _, e => by cases n <;> (unfold toD at e; cases e)
  | n, .gl _, _, e => by cases n <;> (unfold toD at e; cases e)
  | n, .scr, _, e => by cases n <;> (unfold toD at e; cases e)
  | n, .exc _, _, e => by cases n <;> (unfold toD at e; cases e)
theorem toD_shaped {x : Va} {d : PyData} (e : toD hp 9 x = some d) : SeqAt.shaped d = true := by
  obtain ⟨h1, h2⟩ := toD_lay 9 x d e
  unfold SeqAt.shaped
  rw [h1, decide_eq_true (by omega : d.depth ≤ 64)]
  rfl
def kEq : K2 := fun x y h => match toD h 9 x with
  | some d => match toD h 9 y with
    | some e => some (.bl (PyData.eqv d e), h)
    | none => none
  | none => none
def kNe : K2 := fun x y h => match toD h 9 x with
  | some d => match toD h 9 y with
    | some e => some (.bl (!PyData.eqv d e), h)
    | none => none
  | none => none
theorem rv_bl {b : Bool} {v : V} (h : Rv g ρ H (.bl b) v) : v = .bl b := by simpa only [Rv] using h
theorem rv_int {b : Int} {v : V} (h : Rv g ρ H (.int b) v) : v = .int b := by simpa only [Rv] using h
theorem rv_str {b : Str} {v : V} (h : Rv g ρ H (.str b) v) : v = .str b := by simpa only [Rv] using h
theorem rv_non {v : V} (h : Rv g ρ H .non v) : v = .non := by simpa only [Rv] using h
theorem rv_ty {b : String} {v : V} (h : Rv g ρ H (.ty b) v) : v = .ty b := by simpa only [Rv] using h
theorem mk_bl {b : Bool} : Rv g ρ H (.bl b) (.bl b) := by simp only [Rv]
theorem mk_int {b : Int} : Rv g ρ H (.int b) (.int b) := by simp only [Rv]
theorem mk_str {b : Str} : Rv g ρ H (.str b) (.str b) := by simp only [Rv]
theorem mk_non : Rv g ρ H .non .non := by simp only [Rv]
end
section
variable {g : Gd}
theorem p_eq : P2 g (rEqD g.K) kEq := by
  intro ρ H hp x y vx vy v h' Q R rx ry e q
  unfold kEq at e
  split at e
  · rename_i d hd
    split at e
    · rename_i d2 hd2
      cases e
      exact ⟨d, d2, toD_dp R 9 x vx d rx hd, toD_dp R 9 y vy d2 ry hd2, toD_shaped hd, toD_shaped hd2, q ρ H _ (.refl _ _) R mk_bl⟩
    · cases e
  · cases e
theorem p_ne : P2 g (rNeD g.K) kNe := by
  intro ρ H hp x y vx vy v h' Q R rx ry e q
  unfold kNe at e
  split at e
  · rename_i d hd
    split at e
    · rename_i d2 hd2
      cases e
      exact ⟨d, d2, toD_dp R 9 x vx d rx hd, toD_dp R 9 y vy d2 ry hd2, toD_shaped hd, toD_shaped hd2, q ρ H _ (.refl _ _) R mk_bl⟩
    · cases e
  · cases e
theorem o_eq : OpC g .Eq (rEqD g.K) := fun X hK hu => hK ▸ op_eqD (by omega)
theorem o_ne : OpC g .NotEq (rNeD g.K) := fun X hK hu => hK ▸ op_neD (by omega)
def kI (p : Int → Int → Va) : K2 := fun x y h => match x, y with
  | .int i, .int j => some (p i j, h)
  | _, _ => none
theorem kI_inv {p : Int → Int → Va} {x y v : Va} {h h' : Hs} (e : kI p x y h = some (v, h')) : ∃ i j, x = .int i ∧ y = .int j ∧ v = p i j ∧ h' = h := by
  unfold kI at e
  split at e
  · cases e; exact ⟨_, _, rfl, rfl, rfl, rfl⟩
  · cases e
theorem p_I {p : Int → Int → Va} {c : Int → Int → V} (hp : ∀ i j ρ H, Rv g ρ H (p i j) (c i j)) : P2 g (rI0 c) (kI p) := by
  intro ρ H hp' x y vx vy v h' Q R rx ry e q
  obtain ⟨i, j, rfl, rfl, rfl, rfl⟩ := kI_inv e
  exact ⟨i, j, rv_int rx, rv_int ry, q ρ H _ (.refl _ _) R (hp i j ρ H)⟩
def kLt : K2 := kI fun i j => .bl (decide (i < j))
def kLe : K2 := kI fun i j => .bl (decide (i ≤ j))
def kGt : K2 := kI fun i j => .bl (decide (j < i))
def kGe : K2 := kI fun i j => .bl (decide (j ≤ i))
theorem p_lt : P2 g (rI0 fun i j => .bl (decide (i < j))) kLt := p_I fun _ _ _ _ => mk_bl
theorem p_le : P2 g (rI0 fun i j => .bl (decide (i ≤ j))) kLe := p_I fun _ _ _ _ => mk_bl
theorem p_gt : P2 g (rI0 fun i j => .bl (decide (j < i))) kGt := p_I fun _ _ _ _ => mk_bl
theorem o_lt : OpC g .Lt (rI0 fun i j => .bl (decide (i < j))) := fun X hK hu => op_lt
theorem o_le : OpC g .LtE (rI0 fun i j => .bl (decide (i ≤ j))) := fun X hK hu => op_le
theorem o_gt : OpC g .Gt (rI0 fun i j => .bl (decide (j < i))) := fun X hK hu => op_gt
def inD (x y : Va) (h : Hs) : Option Bool := match toD h 9 x with
  | some d => match toD h 9 y with
    | some (.list ds) => some (ds.any fun z => PyData.eqv z d)
    | some (.tuple ds) => some (ds.any fun z => PyData.eqv z d)
    | _ => none
  | none => none
def kIn : K2 := fun x y h => (inD x y h).map fun b => (.bl b, h)
def kNotIn : K2 := fun x y h => (inD x y h).map fun b => (.bl (!b), h)
def rInA (K : PySem.W.Frag) (n : Bool) : R2 := fun x y H Q => ∃ d c ds, Dp K H x d ∧ Dp K H y c ∧ (c = .list ds ∨ c = .tuple ds) ∧ SeqAt.shaped d = true ∧ SeqAt.shaped c = true ∧ Q (.bl (if n then !ds.any fun z => PyData.eqv z d else ds.any fun z => PyData.eqv z d)) H
theorem o_in : OpC g .In (rInA g.K false) := by
  intro X hK hu pins s σ H x y v u Q I rx ry h
  rw [← hK] at h
  obtain ⟨d, c, ds, hd, he, hc, sd, se, q⟩ := h
  obtain ⟨as, r1⟩ := Dp.reads I d x v hd rx
  obtain ⟨bs, r2⟩ := Dp.reads I c y u he ry
  rcases hc with rfl | rfl
  · exact SeqAt.in_list_reads r2 r1 (SeqAt.canLay_of_shaped se) (SeqAt.canLay_of_shaped sd) (PyProof.Rows.room_in_shaped sd (by omega)) ⟨.bl _, H, I, rfl, q⟩
  · exact SeqAt.in_tuple_reads r2 r1 (SeqAt.canLay_of_shaped se) (SeqAt.canLay_of_shaped sd) (PyProof.Rows.room_in_shaped sd (by omega)) ⟨.bl _, H, I, rfl, q⟩
theorem o_notin : OpC g .NotIn (rInA g.K true) := by
  intro X hK hu pins s σ H x y v u Q I rx ry h
  rw [← hK] at h
  obtain ⟨d, c, ds, hd, he, hc, sd, se, q⟩ := h
  obtain ⟨as, r1⟩ := Dp.reads I d x v hd rx
  obtain ⟨bs, r2⟩ := Dp.reads I c y u he ry
  rcases hc with rfl | rfl
  · exact SeqAt.notIn_list_reads r2 r1 (SeqAt.canLay_of_shaped se) (SeqAt.canLay_of_shaped sd) (PyProof.Rows.room_in_shaped sd (by omega)) ⟨.bl _, H, I, rfl, q⟩
  · exact SeqAt.notIn_tuple_reads r2 r1 (SeqAt.canLay_of_shaped se) (SeqAt.canLay_of_shaped sd) (PyProof.Rows.room_in_shaped sd (by omega)) ⟨.bl _, H, I, rfl, q⟩
theorem inD_inv {ρ : List Addr} {H : Hp} {hp : Hs} {x y : Va} {vx vy : V} {b : Bool} (R : Rh g ρ H hp) (rx : Rv g ρ H x vx) (ry : Rv g ρ H y vy) (e : inD x y hp = some b) :
    ∃ d c ds, Dp g.K H vx d ∧ Dp g.K H vy c ∧ (c = .list ds ∨ c = .tuple ds) ∧ SeqAt.shaped d = true ∧ SeqAt.shaped c = true ∧ b = ds.any fun z => PyData.eqv z d := by
  unfold inD at e
  split at e
  · rename_i d hd
    split at e
    · rename_i ds hc
      cases e
      exact ⟨d, _, ds, toD_dp R 9 x vx d rx hd, toD_dp R 9 y vy _ ry hc, .inl rfl, toD_shaped hd, toD_shaped hc, rfl⟩
    · rename_i ds hc
      cases e
      exact ⟨d, _, ds, toD_dp R 9 x vx d rx hd, toD_dp R 9 y vy _ ry hc, .inr rfl, toD_shaped hd, toD_shaped hc, rfl⟩
    · cases e
  · cases e
theorem p_in : P2 g (rInA g.K false) kIn := by
  intro ρ H hp x y vx vy v h' Q R rx ry e q
  obtain ⟨b, hb, e⟩ := Option.map_eq_some_iff.mp e
  cases e
  obtain ⟨d, c, ds, h1, h2, h3, h4, h5, rfl⟩ := inD_inv R rx ry hb
  exact ⟨d, c, ds, h1, h2, h3, h4, h5, q ρ H _ (.refl _ _) R mk_bl⟩
theorem p_notin : P2 g (rInA g.K true) kNotIn := by
  intro ρ H hp x y vx vy v h' Q R rx ry e q
  obtain ⟨b, hb, e⟩ := Option.map_eq_some_iff.mp e
  cases e
  obtain ⟨d, c, ds, h1, h2, h3, h4, h5, rfl⟩ := inD_inv R rx ry hb
  exact ⟨d, c, ds, h1, h2, h3, h4, h5, q ρ H _ (.refl _ _) R mk_bl⟩
end
end Wr
set_option Elab.async false
set_option linter.all false
set_option maxRecDepth 100000
set_option maxHeartbeats 4000000
set_option autoImplicit false
namespace Wr
open PySem PySem.Spec PyProof.Rows L2
section
variable {X : Cx}
/-- the new tuple at the heap's end, its object known -/
theorem EP.newN {pins : List (Addr × Obj)} {σ : L2.St} {H : Hp} {s : Shared} {h' : Heap} {p : Addr} {vs : List V} {us : List Value} {t' : Nat} {Q : VK} (I : Inv X pins σ H s) (k : ∀ b u, s.heap.get? b = some u → h'.get? b = some u) (hp : s.heap.objs.size ≤ p)
    (e : h'.get? p = some (tupO us)) (r : Vals vs us) (hz : vs.length ≤ sizeLine) (q : ∀ p us, H p = none → Q (.ref p) (upd H p (.frz (tupO us) (.tup vs)))) : EP X pins σ Q (.ref p) { s with heap := h', toks := t' } :=
  ⟨.ref p, _, laidN I k hp e r hz, rfl, q p us (I.hok.fresh hp)⟩
abbrev NewT (H : Hp) (vs : List V) (Q : VK) : Prop := ∀ p us, H p = none → Q (.ref p) (upd H p (.frz (tupO us) (.tup vs)))
def rCatN (K : PySem.W.Frag) : R2 := fun x y H Q => ∃ a b xs ys, x = .ref a ∧ y = .ref b ∧ SqT K H a xs ∧ SqT K H b ys ∧ xs.length + ys.length ≤ sizeLine ∧
  (xs = [] → Q (.ref b) H) ∧ (xs ≠ [] → ys = [] → Q (.ref a) H) ∧ (xs ≠ [] → ys ≠ [] → NewT H (xs ++ ys) Q)
theorem op_catN : OpR X (binaryOp .Add) (rCatN X.K) := by
  intro pins s σ H x y v u Q I rx ry h
  obtain ⟨a, b, xs, ys, rfl, rfl, ha, hb, hz, q0, q1, q2⟩ := h
  by_cases hx : xs = []
  · exact op_catA pins s σ H _ _ v u Q I rx ry ⟨a, b, xs, ys, rfl, rfl, ha, hb, hz, q0, fun z => absurd hx z, fun z => absurd hx z⟩
  · cases rx
    cases ry
    obtain ⟨its, r1, p1, _⟩ := I.tuple ha
    obtain ⟨its2, r2, p2, _⟩ := I.tuple hb
    have len : its.length + its2.length ≤ sizeLine := by rw [← r1.length, ← r2.length]; exact hz
    refine HT.cat_tup p1 p2 (fun z => hx (r1.nil_iff.mp z)) (fun z => ⟨.ref a, H, I, rfl, q1 hx (r2.nil_iff.mp z)⟩) (fun z => ?_) len
    exact EP.newN (t' := s.toks) I (fun b ob q => Heap.get?_push_of_some _ q) (Nat.le_refl _) (Heap.get?_push_size _ rfl) (r1.append r2) (by rw [List.length_append]; exact hz) (q2 hx fun w => z (r2.nil_iff.mpr w))
def rTupOf (K : PySem.W.Frag) : List V → Hp → VK → Prop := fun xs H Q => ∃ p ys, xs = [.ref p] ∧ ((SqL K H p ys ∧ NewT H ys Q) ∨ (SqT K H p ys ∧ Q (.ref p) H))
theorem cr_tuple : CallR X (.type "tuple") (rTupOf X.K) := by
  intro pins s σ H xs us Q I r h
  obtain ⟨p, ys, rfl, h⟩ := h
  rcases h with ⟨hq, q⟩ | ⟨hq, q⟩
  · obtain ⟨u, rfl, rx⟩ := vals1 r
    cases rx
    obtain ⟨its, r', pl, hz⟩ := I.list hq
    have hlen := r'.length
    refine call_tuple_list pl.isList (fun h' kp => ?_) (by simp only [List.size_toArray] <;> omega)
    have I1 : Inv X pins σ H { s with heap := h' } := I.kept (t' := s.toks) kp
    exact EP.newN (s := { s with heap := h' }) (t' := s.toks) I1 (fun b o e => Heap.get?_push_of_some _ e) (Nat.le_refl _) (Heap.get?_push_size _ rfl) r' hz q
  · exact call_tupleT pins s σ H _ us Q I r ⟨p, ys, rfl, hq, q⟩
def rSlN (K : PySem.W.Frag) : V → Option Int → Option Int → Hp → VK → Prop := fun x lo hi H Q => ∃ a xs, x = .ref a ∧ SqT K H a xs ∧
  (HT.sIx xs.length 0 lo = 0 ∧ HT.sIx xs.length xs.length hi = xs.length → Q (.ref a) H) ∧ (¬ (HT.sIx xs.length 0 lo = 0 ∧ HT.sIx xs.length xs.length hi = xs.length) → NewT H (cutV xs lo hi) Q)
theorem sl_tupN : SlR X (rSlN X.K) := by
  intro pins s σ H x v vl vu lo hi sl Q I rx hs pl pu h
  obtain ⟨a, xs, rfl, hx, q1, q2⟩ := h
  by_cases hw : HT.sIx xs.length 0 lo = 0 ∧ HT.sIx xs.length xs.length hi = xs.length
  · exact sl_tupA pins s σ H _ v vl vu lo hi sl Q I rx hs pl pu ⟨a, xs, rfl, hx, q1, fun z => absurd hw z⟩
  · cases rx
    obtain ⟨its, r, ht, hz⟩ := I.tuple hx
    have hlen : its.toArray.size = xs.length := by rw [List.size_toArray]; exact r.length.symm
    refine ⟨"tuple", _, PyProof.Rows.slot_tuple_getitem.lookup, ht.typeIs, HT.getItem_tuple_cut ht hs pl pu (by rw [hlen]; exact hw) ?_ (by rw [hlen]; exact hz)⟩
    rw [hlen]
    exact EP.newN (t' := s.toks) I (fun b ob q => Heap.get?_push_of_some _ q) (Nat.le_refl _) (Heap.get?_push_size _ rfl) ((r.drop (HT.sIx xs.length 0 lo)).take (HT.sIx xs.length xs.length hi - HT.sIx xs.length 0 lo))
      (Nat.le_trans (cutV_length xs lo hi) hz) (q2 hw)
end
def cutA {α : Type} (xs : List α) (lo hi : Option Int) : List α := (xs.drop (HT.sIx xs.length 0 lo)).take (HT.sIx xs.length xs.length hi - HT.sIx xs.length 0 lo)
theorem Rvs.cut {g : Gd} {ρ : List Addr} {H : Hp} {xs : List Va} {vs : List V} (lo hi : Option Int) (h : Rvs g ρ H xs vs) : Rvs g ρ H (cutA xs lo hi) (cutV vs lo hi) := by
  unfold cutA cutV
  rw [h.length]
  exact (h.drop _).take _
abbrev Dp' := Sg → Hs → Rs (Option Int)
def PoO (g : Gd) (ρ : List Addr) (H : Hp) (r : Rs (Option Int)) (Q : Option Int → Hp → Prop) (E : XK) : Prop := match r with
  | .ok b h => ∀ ρ' H', Sp1 ρ H ρ' H' → Rh g ρ' H' h → Q b H'
  | .ex c h => ∀ ρ' H', Sp1 ρ H ρ' H' → Rh g ρ' H' h → E (.ref (g.G c)) none H'
  | .no => False
def tO (g : Gd) (W : WX) (f : Dp') : TO := fun σ H Q => ∃ ρ s hp, Rh g ρ H hp ∧ Rsl g ρ H s σ ∧ PoO g ρ H (f s hp) Q (fun c d H' => W c d σ H')
def SO (g : Gd) (X : Cx) (W : WX) (n : Nat) (e : Option Expr) (f : Dp') : Prop := Cz g X W n → PO X e (tO g W f)
section
variable {g : Gd} {X : Cx} {W : WX} {n : Nat} {pos p2 : Pos} {e : Expr}
theorem _root_.L2.PO.imp {X : Cx} {e : Option Expr} {t t' : TO} (h : PO X e t) (q : ∀ σ H Q, t' σ H Q → t σ H Q) : PO X e t' := ⟨fun pins s σ H Q I w => h.run pins s σ H Q I (q _ _ _ w)⟩
def oNone : Dp' := fun _ h => .ok none h
def oSome (f : De) : Dp' := fun s h => (f s h).bind fun v h1 => match v with
  | .int i => .ok (some i) h1
  | _ => .no
theorem o_none : SO g X W n none oNone := fun _ => po_none.imp fun σ H Q ⟨ρ, s, hp, R, L, h⟩ => h ρ H (.refl _ _) R
theorem o_some {f : De} (h : SE g X W n e f) : SO g X W n (some e) (oSome f) := by
  intro C
  refine (po_some (h C)).imp ?_
  rintro σ H Q ⟨ρ, s, hp, R, L, h⟩
  refine ⟨ρ, s, hp, R, L, ?_⟩
  unfold oSome at h
  cases q : f s hp with
  | no => rw [q] at h; exact h
  | ex c h1 => rw [q] at h; exact h
  | ok v h1 =>
    rw [q] at h
    cases v with
    | int i => exact fun ρ1 H1 x S1 R1 r1 => ⟨i, rv_int r1, h ρ1 H1 S1 R1⟩
    | _ => exact h.elim
theorem oBE {f : Dp'} {k : Option Int → Hs → Rs Va} {σ : L2.St} {H : Hp} {ρ : List Addr} {s : Sg} {hp : Hs} {Q : VK} {T : Option Int → Hp → Prop} (h : PoE g ρ H ((f s hp).bind k) Q (EW W σ)) (R : Rh g ρ H hp) (L : Rsl g ρ H s σ)
    (hk : ∀ v h ρ1 H1, Sp1 ρ H ρ1 H1 → Rh g ρ1 H1 h → Rsl g ρ1 H1 s σ → PoE g ρ1 H1 (k v h) Q (EW W σ) → T v H1) : tO g W f σ H T := by
  refine ⟨ρ, s, hp, R, L, ?_⟩
  cases q : f s hp with
  | ok v h1 => rw [q] at h; exact fun ρ1 H1 S R1 => hk v h1 ρ1 H1 S R1 (L.step R S) (PoE.at h S)
  | ex c h1 => rw [q] at h; exact h
  | no => rw [q] at h; exact h
def kSl (x : Va) (lo hi : Option Int) (h : Hs) : Rs Va := match x with
  | .tup xs => .ok (.tup (cutA xs lo hi)) h
  | .ref r => match h[r]? with
    | some (.lst xs) => .ok (.ref h.length) (h ++ [.lst (cutA xs lo hi)])
    | _ => .no
  | .str z => if okN z.length then .ok (.str (L2.cutS z lo hi)) h else .no
  | _ => .no
def dSl (f : De) (fl fh : Dp') : De := fun s h => (f s h).bind fun x h1 => (fl s h1).bind fun lo h2 => (fh s h2).bind fun hi h3 => kSl x lo hi h3
theorem sl_all : SlR X (fun x lo hi H Q => rSlN X.K x lo hi H Q ∨ rSlL X.K x lo hi H Q ∨ rSlS x lo hi H Q) := SlR.or sl_tupN (SlR.or sl_list sl_str)
theorem cut_whole {α : Type} (xs : List α) (lo hi : Option Int) (h : HT.sIx xs.length 0 lo = 0 ∧ HT.sIx xs.length xs.length hi = xs.length) : cutA xs lo hi = xs := by
  unfold cutA
  rw [h.1, h.2]
  simp
theorem e_slice {f : De} {lo hi : Option Expr} {fl fh : Dp'} (he : SE g X W n e f) (hl : SO g X W n lo fl) (hh : SO g X W n hi fh) : SE g X W n (.Subscript e (.Slice lo hi none p2) pos) (dSl f fl fh) := by
  intro C
  refine (pe_slice sl_all (he C) (hl C) (hh C)).imp ?_
  rintro σ H Q ⟨ρ, s, hp, R, L, h⟩
  rw [C.K]
  refine bE h R L fun x h1 ρ1 H1 vx S1 R1 r1 L1 p1 => ?_
  refine oBE p1 R1 L1 fun lo h2 ρ2 H2 S2 R2 L2 p2 => ?_
  refine oBE p2 R2 L2 fun hi h3 ρ3 H3 S3 R3 L3 p3 => ?_
  have r3 := Rv.step R2 S3 _ _ (Rv.step R1 S2 _ _ r1)
  cases x with
  | tup xs =>
    simp only [Rv] at r3
    obtain ⟨a, vs, rfl, ht, rv⟩ := r3
    refine .inl ⟨a, vs, rfl, ht.sqT, fun w => ?_, fun w p us hn => ?_⟩
    · refine p3 ρ3 H3 _ (.refl _ _) R3 ?_
      rw [← rv.length] at w
      rw [cut_whole xs lo hi w]
      simp only [Rv]
      exact ⟨a, vs, rfl, ht, rv⟩
    · obtain ⟨S4, R4, r4⟩ := new_tup (us := us) R3 hn (rv.cut lo hi)
      exact p3 _ _ _ S4 R4 r4
  | ref i =>
    simp only [Rv] at r3
    obtain ⟨a, ha, rfl⟩ := r3
    unfold kSl at p3
    simp only at p3
    split at p3
    · rename_i xs hx
      obtain ⟨vs, e2, rv⟩ := R3.obj i a _ ha hx
      refine .inr (.inl ⟨a, vs, rfl, .inl (.inl e2), fun p hn => ?_⟩)
      obtain ⟨S4, R4, r4⟩ := new_lst R3 hn (rv.cut lo hi)
      exact p3 _ _ _ S4 R4 r4
    · exact p3.elim
  | str z =>
    unfold kSl at p3
    simp only at p3
    by_cases hz : okN z.length = true
    · rw [if_pos hz] at p3
      exact .inr (.inr ⟨z, rv_str r3, okN_le hz, p3 ρ3 H3 _ (.refl _ _) R3 mk_str⟩)
    · rw [if_neg hz] at p3; exact p3.elim
  | _ => exact p3.elim
def rRevN (K : PySem.W.Frag) (te : TE) : TE := fun σ H Q => te σ H fun x H1 => ∃ a xs, x = .ref a ∧ SqT K H1 a xs ∧ NewT H1 xs.reverse Q
def kRev (x : Va) (h : Hs) : Rs Va := match x with
  | .tup xs => .ok (.tup xs.reverse) h
  | .ref r => match h[r]? with
    | some (.lst xs) => .ok (.ref h.length) (h ++ [.lst xs.reverse])
    | _ => .no
  | _ => .no
def dRev (f : De) : De := fun s h => (f s h).bind kRev
def kIx : K2 := fun x y h => match y with
  | .int i => match x with
    | .tup xs => (L2.atI xs i).map fun v => (v, h)
    | .ref r => match h[r]? with
      | some (.lst xs) => (L2.atI xs i).map fun v => (v, h)
      | _ => none
    | .str z => if okN z.length then (L2.atI z.cps.toList i).map fun c => (.str ⟨#[c]⟩, h) else none
    | _ => none
  | _ => none
theorem atI_rv {ρ : List Addr} {H : Hp} {xs : List Va} {vs : List V} {i : Int} {v : Va} (r : Rvs g ρ H xs vs) (e : L2.atI xs i = some v) : ∃ x, L2.atI vs i = some x ∧ Rv g ρ H v x := by
  unfold L2.atI at e ⊢
  rw [← r.length]
  cases hj : ixN xs.length i with
  | none => rw [hj] at e; cases e
  | some j =>
    rw [hj] at e
    exact r.get e
theorem p_ix : P2 g (rIx g.K) kIx := by
  intro ρ H hp x y vx vy v h' Q R rx ry e q
  unfold kIx at e
  split at e
  · rename_i i
    split at e
    · rename_i xs
      obtain ⟨w, hw, e⟩ := Option.map_eq_some_iff.mp e
      cases e
      simp only [Rv] at rx
      obtain ⟨a, vs, rfl, ht, rv⟩ := rx
      obtain ⟨z, hz, rz⟩ := atI_rv rv hw
      exact .inr (.inl ⟨a, vs, i, z, rfl, rv_int ry, ht.sqT, hz, q ρ H _ (.refl _ _) R rz⟩)
    · rename_i r
      split at e
      · rename_i xs hx
        obtain ⟨w, hw, e⟩ := Option.map_eq_some_iff.mp e
        cases e
        simp only [Rv] at rx
        obtain ⟨a, ha, rfl⟩ := rx
        obtain ⟨vs, e2, rv⟩ := R.obj r a _ ha hx
        obtain ⟨z, hz, rz⟩ := atI_rv rv hw
        exact .inl ⟨a, vs, i, z, rfl, rv_int ry, .inl (.inl e2), hz, q ρ H _ (.refl _ _) R rz⟩
      · cases e
    · rename_i z
      by_cases hz : okN z.length = true
      · rw [if_pos hz] at e
        obtain ⟨c, hc, e⟩ := Option.map_eq_some_iff.mp e
        cases e
        exact .inr (.inr ⟨z, i, c, rv_str rx, rv_int ry, okN_le hz, hc, q ρ H _ (.refl _ _) R mk_str⟩)
      · rw [if_neg hz] at e; cases e
    · cases e
  · cases e
theorem e_ix {a b : Expr} {fa fb : De} (ha : SE g X W n a fa) (hb : SE g X W n b fb) (hs : PlainIx b := by exact fun _ _ => rfl) : SE g X W n (.Subscript a b pos) (dOp kIx fa fb) :=
  fun C => (pe_ix ix_seq (ha C) (hb C) hs).imp fun _ _ _ h => C.K ▸ op_imp p_ix h
end
section
variable {g : Gd} {X : Cx}
def mulOk (i j : Int) : Bool := (decide (-(2 ^ 64) < i) && decide (i < 2 ^ 64)) || (decide (-(2 ^ 64) < j) && decide (j < 2 ^ 64))
theorem mulOk_ok {i j : Int} (h : mulOk i j = true) : CMul i j := by
  unfold mulOk at h
  simp only [Bool.or_eq_true, Bool.and_eq_true, decide_eq_true_eq] at h
  exact h
def kAdd : K2 := fun x y h => match x, y with
  | .int i, .int j => some (.int (i + j), h)
  | .tup xs, .tup ys => if okN (xs.length + ys.length) then some (.tup (xs ++ ys), h) else none
  | .str a, .str b => if okN (a.length + b.length) then some (.str (a ++ b), h) else none
  | .ref r, .ref t => match h[r]? with
    | some (.lst xs) => match h[t]? with
      | some (.lst ys) => if okN (xs.length + ys.length) then some (.ref h.length, h ++ [.lst (xs ++ ys)]) else none
      | _ => none
    | _ => none
  | _, _ => none
abbrev rAddA (K : PySem.W.Frag) : R2 := fun x y H Q => (rI0 fun i j => .int (i + j)) x y H Q ∨ rCatN K x y H Q ∨ (∃ i j, x = .str i ∧ y = .str j ∧ i.length + j.length ≤ sizeLine ∧ Q (.str (i ++ j)) H) ∨ rCat x y H Q
theorem o_add : ∀ X : Cx, X.K = g.K → OpR X (binaryOp .Add) (rAddA g.K) := fun X hK => hK ▸ OpR.or op_add (OpR.or op_catN (OpR.or op_add_str op_cat))
theorem p_add : P2 g (rAddA g.K) kAdd := by
  intro ρ H hp x y vx vy v h' Q R rx ry e q
  unfold kAdd at e
  split at e
  · rename_i i j
    cases e
    exact .inl ⟨i, j, rv_int rx, rv_int ry, q ρ H _ (.refl _ _) R mk_int⟩
  · rename_i xs ys
    by_cases hz : okN (xs.length + ys.length) = true
    · rw [if_pos hz] at e
      cases e
      have rx' := rx
      have ry' := ry
      simp only [Rv] at rx ry
      obtain ⟨a, vs, rfl, ht, rv⟩ := rx
      obtain ⟨b, ws, rfl, ht2, rv2⟩ := ry
      refine .inr (.inl ⟨a, b, vs, ws, rfl, rfl, ht.sqT, ht2.sqT, by rw [← rv.length, ← rv2.length]; exact okN_le hz, fun z => ?_, fun _ z => ?_, fun _ _ p us hn => ?_⟩)
      · subst z
        have : xs = [] := List.eq_nil_of_length_eq_zero rv.length
        subst this
        exact q ρ H _ (.refl _ _) R (by simpa using ry')
      · subst z
        have : ys = [] := List.eq_nil_of_length_eq_zero rv2.length
        subst this
        exact q ρ H _ (.refl _ _) R (by simpa using rx')
      · obtain ⟨S4, R4, r4⟩ := new_tup (us := us) R hn (rv.append rv2)
        exact q _ _ _ S4 R4 r4
    · rw [if_neg hz] at e; cases e
  · rename_i a b
    by_cases hz : okN (a.length + b.length) = true
    · rw [if_pos hz] at e
      cases e
      exact .inr (.inr (.inl ⟨a, b, rv_str rx, rv_str ry, okN_le hz, q ρ H _ (.refl _ _) R mk_str⟩))
    · rw [if_neg hz] at e; cases e
  · rename_i r t
    split at e
    · rename_i xs hx
      split at e
      · rename_i ys hy
        by_cases hz : okN (xs.length + ys.length) = true
        · rw [if_pos hz] at e
          cases e
          simp only [Rv] at rx ry
          obtain ⟨a, ha, rfl⟩ := rx
          obtain ⟨b, hb, rfl⟩ := ry
          obtain ⟨vs, e2, rv⟩ := R.obj r a _ ha hx
          obtain ⟨ws, e3, rv2⟩ := R.obj t b _ hb hy
          refine .inr (.inr (.inr ⟨a, b, vs, ws, rfl, rfl, e2, e3, by rw [← rv.length, ← rv2.length]; exact okN_le hz, fun p hn => ?_⟩))
          obtain ⟨S4, R4, r4⟩ := new_lst R hn (rv.append rv2)
          exact q _ _ _ S4 R4 r4
        · rw [if_neg hz] at e; cases e
      · cases e
    · cases e
  · cases e
def kSub : K2 := kI fun i j => .int (i - j)
theorem o_sub : ∀ X : Cx, X.K = g.K → OpR X (binaryOp .Sub) (rI0 fun i j => .int (i - j)) := fun X hK => op_sub
theorem p_sub : P2 g (rI0 fun i j => .int (i - j)) kSub := p_I fun _ _ _ _ => mk_int
/-- int * int, list * int, tuple * int -/
def kMul : K2 := fun x y h => match x, y with
  | .int i, .int j => if mulOk i j then some (.int (i * j), h) else none
  | .ref r, .int k => match h[r]? with
    | some (.lst xs) => if decide (-(2 ^ 63) ≤ k) && decide (k < 2 ^ 63) && okN (xs.length * k.toNat) then some (.ref h.length, h ++ [.lst (List.replicate k.toNat xs).flatten]) else none
    | _ => none
  | _, _ => none
abbrev rMulA : R2 := fun x y H Q => (rI CMul fun i j => .int (i * j)) x y H Q ∨ rRep x y H Q
theorem o_mul : ∀ X : Cx, X.K = g.K → OpR X (binaryOp .Mult) rMulA := fun X hK => OpR.or op_mul op_rep
theorem Rvs.rep {ρ : List Addr} {H : Hp} {xs : List Va} {vs : List V} (h : Rvs g ρ H xs vs) : ∀ k : Nat, Rvs g ρ H (List.replicate k xs).flatten (List.replicate k vs).flatten
  | 0 => by simpa using Rvs.nil
  | k + 1 => by
    simp only [List.replicate_succ, List.flatten_cons]
    exact h.append (Rvs.rep h k)
theorem p_mul : P2 g rMulA kMul := by
  intro ρ H hp x y vx vy v h' Q R rx ry e q
  unfold kMul at e
  split at e
  · rename_i i j
    by_cases hz : mulOk i j = true
    · rw [if_pos hz] at e
      cases e
      exact .inl ⟨i, j, rv_int rx, rv_int ry, mulOk_ok hz, q ρ H _ (.refl _ _) R mk_int⟩
    · rw [if_neg hz] at e; cases e
  · rename_i r k
    split at e
    · rename_i xs hx
      by_cases hz : (decide (-(2 ^ 63) ≤ k) && decide (k < 2 ^ 63) && okN (xs.length * k.toNat)) = true
      · rw [if_pos hz] at e
        cases e
        simp only [Bool.and_eq_true, decide_eq_true_eq] at hz
        simp only [Rv] at rx
        obtain ⟨a, ha, rfl⟩ := rx
        obtain ⟨vs, e2, rv⟩ := R.obj r a _ ha hx
        refine .inr ⟨a, k, vs, rfl, rv_int ry, e2, hz.1.1, hz.1.2, by rw [← rv.length]; exact okN_le hz.2, fun p hn => ?_⟩
        obtain ⟨S4, R4, r4⟩ := new_lst R hn (rv.rep k.toNat)
        exact q _ _ _ S4 R4 r4
      · rw [if_neg hz] at e; cases e
    · cases e
  · cases e
def kMod : K2 := fun x y h => match x, y with
  | .int i, .int j => if decide (0 < j) then some (.int (i % j), h) else none
  | _, _ => none
theorem o_mod : ∀ X : Cx, X.K = g.K → OpR X (binaryOp .Mod) (rI (fun _ j => 0 < j) fun i j => .int (i % j)) := fun X hK => op_mod
theorem p_mod : P2 g (rI (fun _ j => 0 < j) fun i j => .int (i % j)) kMod := by
  intro ρ H hp x y vx vy v h' Q R rx ry e q
  unfold kMod at e
  split at e
  · rename_i i j
    by_cases hz : decide (0 < j) = true
    · rw [if_pos hz] at e
      cases e
      exact ⟨i, j, rv_int rx, rv_int ry, of_decide_eq_true hz, q ρ H _ (.refl _ _) R mk_int⟩
    · rw [if_neg hz] at e; cases e
  · cases e
end
end Wr
set_option Elab.async false
set_option linter.all false
set_option maxRecDepth 100000
set_option maxHeartbeats 4000000
set_option autoImplicit false
namespace Wr
open PySem PySem.Spec PyProof.Rows L2
abbrev K1 := List Va → Hs → Option (Va × Hs)
def PC1 (g : Gd) (r : List V → Hp → VK → Prop) (k : K1) : Prop := ∀ (ρ : List Addr) (H : Hp) (hp : Hs) (xs : List Va) (vs : List V) (v : Va) (h' : Hs) (Q : VK), Rh g ρ H hp → Rvs g ρ H xs vs → k xs hp = some (v, h') →
  (∀ ρ' H' z, Sp1 ρ H ρ' H' → Rh g ρ' H' h' → Rv g ρ' H' v z → Q z H') → r vs H Q
def dB (k : K1) (f : Da) : De := fun s h => (f s h).bind fun xs h1 => liftO (k xs h1)
abbrev CallC (g : Gd) (f : Value) (r : List V → Hp → VK → Prop) : Prop := ∀ X : Cx, X.K = g.K → X.calm = true → X.A.units + 100 < cLine → CallR X f r
section
variable {g : Gd} {X : Cx} {W : WX} {n : Nat} {pos p : Pos} {e : Expr} {es : List Expr}
theorem b_imp {r : List V → Hp → VK → Prop} {k : K1} (pk : PC1 g r k) {f : Da} {σ : L2.St} {H : Hp} {Q : VK} (h : tE g W (dB k f) σ H Q) : tCB r (tA g W f) σ H Q := by
  obtain ⟨ρ, s, hp, R, L, h⟩ := h
  refine aBE h R L fun xs h1 ρ1 H1 vs S1 R1 r1 L1 p1 => ?_
  cases q : k xs h1 with
  | none => rw [q] at p1; exact p1.elim
  | some w =>
    obtain ⟨v, h2⟩ := w
    rw [q] at p1
    exact pk ρ1 H1 h1 xs vs v h2 Q R1 r1 q fun ρ2 H2 z S2 R2 r2 => p1 ρ2 H2 z S2 R2 r2
theorem e_callB {x : Str} {id : String} {f : Da} {r : List V → Hp → VK → Prop} {k : K1} (hc : CallC g (.builtin id) r) (pk : PC1 g r k) (hm : X.mg x = none) (ha : SA g X W (n + 1) (e :: es) f) (hv : bootBuiltins x = some (.builtin id) := by decide +kernel) (hg : Gl X x := by rfl)
    (hn : x ≠ "__name__" := by decide) (hdb : (x == ("__debug__" : Str)) = false := by decide) (hs : starEach (e :: es) X.env = (false, eval e X.env) :: starEach es X.env := by rfl) (hpl : (backTo pos (starEach es X.env)).any (·.1) = false := by rfl) :
    SE g X W (n + 1) (.Call (.Name x p) (e :: es) [] pos) (dB k f) := fun C => (pe_callB (hc X C.K C.calm C.units) hg hm hv (ha C) hn hdb hs hpl).imp fun _ _ _ h => b_imp pk h
theorem e_callT {x : Str} {T : String} {f : Da} {r : List V → Hp → VK → Prop} {k : K1} (hc : CallC g (.type T) r) (pk : PC1 g r k) (hm : X.mg x = none) (ha : SA g X W (n + 1) (e :: es) f) (hv : bootBuiltins x = some (.type T) := by decide +kernel) (hg : Gl X x := by rfl)
    (hn : x ≠ "__name__" := by decide) (hdb : (x == ("__debug__" : Str)) = false := by decide) (hs : starEach (e :: es) X.env = (false, eval e X.env) :: starEach es X.env := by rfl) (hpl : (backTo pos (starEach es X.env)).any (·.1) = false := by rfl) :
    SE g X W (n + 1) (.Call (.Name x p) (e :: es) [] pos) (dB k f) := fun C => (pe_callTy (hc X C.K C.calm C.units) hg hm hv (ha C) hn hdb hs hpl).imp fun _ _ _ h => b_imp pk h
end
section
variable {g : Gd}
theorem Rvs.inv1 {ρ : List Addr} {H : Hp} {x : Va} {vs : List V} (h : Rvs g ρ H [x] vs) : ∃ v, vs = [v] ∧ Rv g ρ H x v := by
  simp only [Rvs] at h
  obtain ⟨v, r, rfl, h1, rfl⟩ := h
  exact ⟨v, rfl, h1⟩
theorem Rvs.inv2 {ρ : List Addr} {H : Hp} {x y : Va} {vs : List V} (h : Rvs g ρ H [x, y] vs) : ∃ v w, vs = [v, w] ∧ Rv g ρ H x v ∧ Rv g ρ H y w := by
  simp only [Rvs] at h
  obtain ⟨v, r, rfl, h1, w, r', rfl, h2, rfl⟩ := h
  exact ⟨v, w, rfl, h1, h2⟩
def kLen : K1 := fun xs h => match xs with
  | [.tup ys] => some (.int ys.length, h)
  | [.ref r] => match h[r]? with
    | some (.lst ys) => some (.int ys.length, h)
    | _ => none
  | [.str z] => if okN z.length then some (.int z.length, h) else none
  | _ => none
abbrev rLenA (K : PySem.W.Frag) : List V → Hp → VK → Prop := fun xs H Q => (∃ p ys, xs = [.ref p] ∧ (SqL K H p ys ∨ SqT K H p ys) ∧ Q (.int ys.length) H) ∨ ∃ z, xs = [.str z] ∧ z.length ≤ sizeLine ∧ Q (.int z.length) H
theorem c_len : CallC g (.builtin "len") (rLenA g.K) := fun X hK _ _ => hK ▸ CallR.or call_len_seq call_len_str
theorem p_len : PC1 g (rLenA g.K) kLen := by
  intro ρ H hp xs vs v h' Q R r e q
  unfold kLen at e
  split at e
  · rename_i ys
    cases e
    obtain ⟨w, rfl, rw'⟩ := r.inv1
    simp only [Rv] at rw'
    obtain ⟨a, us, rfl, ht, rv⟩ := rw'
    exact .inl ⟨a, us, rfl, .inr ht.sqT, by rw [← rv.length]; exact q ρ H _ (.refl _ _) R mk_int⟩
  · rename_i i
    split at e
    · rename_i ys hy
      cases e
      obtain ⟨w, rfl, rw'⟩ := r.inv1
      simp only [Rv] at rw'
      obtain ⟨a, ha, rfl⟩ := rw'
      obtain ⟨us, e2, rv⟩ := R.obj i a _ ha hy
      exact .inl ⟨a, us, rfl, .inl (.inl (.inl e2)), by rw [← rv.length]; exact q ρ H _ (.refl _ _) R mk_int⟩
    · cases e
  · rename_i z
    by_cases hz : okN z.length = true
    · rw [if_pos hz] at e
      cases e
      obtain ⟨w, rfl, rw'⟩ := r.inv1
      exact .inr ⟨z, by rw [rv_str rw'], okN_le hz, q ρ H _ (.refl _ _) R mk_int⟩
    · rw [if_neg hz] at e; cases e
  · cases e
def bls : List Va → Option (List Bool)
  | [] => some []
  | .bl b :: t => (bls t).map (b :: ·)
  | _ => none
theorem bls_rv {ρ : List Addr} {H : Hp} : ∀ {xs : List Va} {vs : List V} {bs : List Bool}, Rvs g ρ H xs vs → bls xs = some bs → vs = bs.map V.bl
  | [], _, _, r, e => by simp only [Rvs] at r; cases e; exact r
  | x :: xs, _, bs, r, e => by
    simp only [Rvs] at r
    obtain ⟨v, vr, rfl, r1, r2⟩ := r
    cases x with
    | bl b =>
      simp only [bls] at e
      obtain ⟨t, ht, rfl⟩ := Option.map_eq_some_iff.mp e
      rw [rv_bl r1, bls_rv r2 ht]
      rfl
    | _ => exact nomatch e
def intsV : List Va → Option (List Int)
  | [] => some []
  | .int b :: t => (intsV t).map (b :: ·)
  | _ => none
theorem intsV_rv {ρ : List Addr} {H : Hp} : ∀ {xs : List Va} {vs : List V} {bs : List Int}, Rvs g ρ H xs vs → intsV xs = some bs → vs = bs.map V.int
  | [], _, _, r, e => by simp only [Rvs] at r; cases e; exact r
  | x :: xs, _, bs, r, e => by
    simp only [Rvs] at r
    obtain ⟨v, vr, rfl, r1, r2⟩ := r
    cases x with
    | int b =>
      simp only [intsV] at e
      obtain ⟨t, ht, rfl⟩ := Option.map_eq_some_iff.mp e
      rw [rv_int r1, intsV_rv r2 ht]
      rfl
    | _ => exact nomatch e
/-- the list that is the one argument -/
def lstArg (xs : List Va) (h : Hs) : Option (List Va) := match xs with
  | [.ref r] => match h[r]? with
    | some (.lst ys) => some ys
    | _ => none
  | _ => none
theorem lstArg_inv {ρ : List Addr} {H : Hp} {hp : Hs} {xs ys : List Va} {vs : List V} (R : Rh g ρ H hp) (r : Rvs g ρ H xs vs) (e : lstArg xs hp = some ys) : ∃ a us, vs = [.ref a] ∧ H a = some (.lst us) ∧ Rvs g ρ H ys us := by
  unfold lstArg at e
  split at e
  · rename_i i
    split at e
    · rename_i zs hz
      cases e
      obtain ⟨w, rfl, rw'⟩ := r.inv1
      simp only [Rv] at rw'
      obtain ⟨a, ha, rfl⟩ := rw'
      obtain ⟨us, e2, rv⟩ := R.obj i a _ ha hz
      exact ⟨a, us, rfl, e2, rv⟩
    · cases e
  · cases e
def kAll : K1 := fun xs h => (lstArg xs h).bind fun ys => (bls ys).map fun bs => (.bl (bs.all id), h)
theorem c_all : CallC g (.builtin "all") (rAll g.K) := fun X hK hc _ => hK ▸ cr_all hc
theorem p_all : PC1 g (rAll g.K) kAll := by
  intro ρ H hp xs vs v h' Q R r e q
  obtain ⟨ys, h1, e⟩ := Option.bind_eq_some_iff.mp e
  obtain ⟨bs, h2, e⟩ := Option.map_eq_some_iff.mp e
  cases e
  obtain ⟨a, us, rfl, e2, rv⟩ := lstArg_inv R r h1
  exact ⟨a, bs, rfl, by rw [← bls_rv rv h2]; exact .inl (.inl e2), q ρ H _ (.refl _ _) R mk_bl⟩
def kSum : K1 := fun xs h => (lstArg xs h).bind fun ys => (intsV ys).map fun ns => (.int ns.sum, h)
theorem p_sum : PC1 g (rSum g.K) kSum := by
  intro ρ H hp xs vs v h' Q R r e q
  obtain ⟨ys, h1, e⟩ := Option.bind_eq_some_iff.mp e
  obtain ⟨bs, h2, e⟩ := Option.map_eq_some_iff.mp e
  cases e
  obtain ⟨a, us, rfl, e2, rv⟩ := lstArg_inv R r h1
  exact ⟨a, bs, rfl, by rw [← intsV_rv rv h2]; exact .inl (.inl e2), q ρ H _ (.refl _ _) R mk_int⟩
def minI : Int → List Int → Int
  | m, [] => m
  | m, x :: t => minI (if x < m then x else m) t
def kMin : K1 := fun xs h => match xs with
  | [.int i, .int j] => some (.int (if j < i then j else i), h)
  | _ => (lstArg xs h).bind fun ys => (intsV ys).bind fun ns => match ns with
    | [] => none
    | m :: t => some (.int (minI m t), h)
def kTuple : K1 := fun xs h => match xs with
  | [.tup ys] => some (.tup ys, h)
  | _ => (lstArg xs h).map fun ys => (.tup ys, h)
theorem c_tuple : CallC g (.type "tuple") (rTupOf g.K) := fun X hK _ _ => hK ▸ cr_tuple
theorem p_tuple : PC1 g (rTupOf g.K) kTuple := by
  intro ρ H hp xs vs v h' Q R r e q
  unfold kTuple at e
  split at e
  · cases e
    obtain ⟨w, rfl, rw'⟩ := r.inv1
    have rw2 := rw'
    simp only [Rv] at rw'
    obtain ⟨a, us, rfl, ht, rv⟩ := rw'
    exact ⟨a, us, rfl, .inr ⟨ht.sqT, q ρ H _ (.refl _ _) R rw2⟩⟩
  · obtain ⟨ys, h1, e⟩ := Option.map_eq_some_iff.mp e
    cases e
    obtain ⟨a, us, rfl, e2, rv⟩ := lstArg_inv R r h1
    refine ⟨a, us, rfl, .inl ⟨.inl (.inl e2), fun p ws hn => ?_⟩⟩
    obtain ⟨S4, R4, r4⟩ := new_tup (us := ws) R hn rv
    exact q _ _ _ S4 R4 r4
def kList : K1 := fun xs h => match xs with
  | [.tup ys] => some (.ref h.length, h ++ [.lst ys])
  | _ => (lstArg xs h).map fun ys => (.ref h.length, h ++ [.lst ys])
def kInt : K1 := fun xs h => match xs with
  | [.int i] => some (.int i, h)
  | [.bl b] => some (.int (if b then 1 else 0), h)
  | _ => none
def tyOf (x : Va) (h : Hs) : Option String := match x with
  | .non => some "NoneType"
  | .bl _ => some "bool"
  | .int _ => some "int"
  | .str _ => some "str"
  | .tup _ => some "tuple"
  | .ref r => match h[r]? with
    | some (.lst _) => some "list"
    | some (.dK _) => some "dict"
    | _ => none
  | _ => none
/-- the answers that are asked, worked out once -/
def isiT (a b : String) : Option Bool :=
  if b == "int" then some (a == "int" || a == "bool") else if b == "bool" then some (a == "bool") else if b == "tuple" then some (a == "tuple") else if b == "str" then some (a == "str") else if b == "list" then some (a == "list") else none
def kIsi : K1 := fun xs h => match xs with
  | [x, .ty b] => match tyOf x h with
    | some a => (isiT a b).map fun r => (.bl r, h)
    | none => none
  | _ => none
theorem tyOf_ty {ρ : List Addr} {H : Hp} {hp : Hs} {x : Va} {v : V} {a : String} (R : Rh g ρ H hp) (r : Rv g ρ H x v) (e : tyOf x hp = some a) : TyX g.K H v (.type a) ∧ a ∈ ["NoneType", "bool", "int", "str", "tuple", "list", "dict"] := by
  cases x with
  | non => cases e; rw [rv_non r]; exact ⟨.base .non, by decide⟩
  | bl b => cases e; rw [rv_bl r]; exact ⟨.base (.bl b), by decide⟩
  | int i => cases e; rw [rv_int r]; exact ⟨.base (.int i), by decide⟩
  | str z => cases e; rw [rv_str r]; exact ⟨.base (.str z), by decide⟩
  | tup xs =>
    cases e
    simp only [Rv] at r
    obtain ⟨p, us, rfl, ht, rv⟩ := r
    rcases ht with ⟨o, h1, _⟩ | ⟨o, its, m, h1, h2, _⟩
    · exact ⟨.fTuple h1, by decide⟩
    · exact ⟨.kTuple h1 h2, by decide⟩
  | ref i =>
    simp only [Rv] at r
    obtain ⟨p, ha, rfl⟩ := r
    unfold tyOf at e
    simp only at e
    split at e
    · rename_i ys hy
      cases e
      obtain ⟨us, e2, rv⟩ := R.obj i p _ ha hy
      exact ⟨.base (.lst e2), by decide⟩
    · rename_i ys hy
      cases e
      obtain ⟨us, e2, rv⟩ := R.obj i p _ ha hy
      exact ⟨.base (.dK e2), by decide⟩
    · cases e
  | _ => exact nomatch e
theorem isiT_ok : ∀ a ∈ ["NoneType", "bool", "int", "str", "tuple", "list", "dict"], ∀ b ∈ ["int", "bool", "tuple", "str", "list"], kitB a b = isiT a b := by decide +kernel
theorem isiT_cls {a b : String} {r : Bool} (h : isiT a b = some r) : b ∈ ["int", "bool", "tuple", "str", "list"] := by
  unfold isiT at h
  by_cases h1 : b = "int"
  · subst h1; decide
  by_cases h2 : b = "bool"
  · subst h2; decide
  by_cases h3 : b = "tuple"
  · subst h3; decide
  by_cases h4 : b = "str"
  · subst h4; decide
  by_cases h5 : b = "list"
  · subst h5; decide
  simp [h1, h2, h3, h4, h5] at h
theorem c_isi : CallC g (.builtin "isinstance") (rIsi g.K) := fun X hK _ _ => hK ▸ call_isi
theorem p_isi : PC1 g (rIsi g.K) kIsi := by
  intro ρ H hp xs vs v h' Q R r e q
  unfold kIsi at e
  split at e
  · rename_i x b
    split at e
    · rename_i a ha
      obtain ⟨t, ht, e⟩ := Option.map_eq_some_iff.mp e
      cases e
      obtain ⟨w, w2, rfl, r1, r2⟩ := r.inv2
      obtain ⟨ty, hm⟩ := tyOf_ty R r1 ha
      exact ⟨w, .ty b, .type a, .type b, t, by rw [rv_ty r2], .ty b, ty, kit_ty (by rw [isiT_ok a hm b (isiT_cls ht)]; exact ht), q ρ H _ (.refl _ _) R mk_bl⟩
    · cases e
  · cases e
end
end Wr
set_option Elab.async false
set_option linter.all false
set_option maxRecDepth 100000
set_option maxHeartbeats 4000000
set_option autoImplicit false
namespace Wr
open PySem PySem.Spec PyProof.Rows L2
def tyN (K : PySem.W.Frag) (T : String) (x : V) (H : Hp) : Prop := tyV K T x H ∨ (T = "tuple" ∧ ∃ a xs, x = .ref a ∧ SqN K H a xs)
section
variable {X : Cx}
theorem tyN_is {pins : List (Addr × Obj)} {σ : L2.St} {H : Hp} {s : Shared} {T : String} {x : V} {v : Value} (I : Inv X pins σ H s) (r : RelV x v) (ty : tyN X.K T x H) : s.TypeIs v T ∧ ∀ a, v = .ref a → ∃ ob, s.heap.get? a = some ob ∧ ob.dict = none := by
  rcases ty with ty | ⟨rfl, a, xs, rfl, h⟩
  · exact tyV_is I r ty
  · cases r
    rcases h with ⟨o, h1, h2⟩ | ⟨o, its, m, h1, h2, h3, _⟩
    · obtain ⟨e, _, _, _, o2, e2, c2, _⟩ := I.hok a _ h1
      rw [e] at e2; cases e2
      exact ⟨⟨o, e, c2⟩, fun b z => by cases z; exact ⟨o, e, h2⟩⟩
    · exact ⟨⟨o, I.kIn a o h1, h2⟩, fun b z => by cases z; exact ⟨o, I.kIn a o h1, h3⟩⟩
def tBMN (K : PySem.W.Frag) (T : String) (r : V → List V → Hp → VK → Prop) (to : TE) (t : TA) : TE := fun σ H Q => to σ H fun x H1 => tyN K T x H1 ∧ t σ H1 fun xs H2 => r x xs H2 Q
variable {o e : Expr} {es : List Expr} {to : TE} {t : TA} {name : Str} {apos cpos : Pos} {T id : String} {r : V → List V → Hp → VK → Prop}
/-- what the text of a method's call is to be like -/
structure MForm (X : Cx) (o : Expr) (name : Str) (e : Expr) (es : List Expr) (apos cpos : Pos) : Prop where
  base : attributeBase o name X.env (eval o X.env) = eval o X.env
  few : ((backTo cpos (starEach (e :: es) X.env)).all (fun x => !x.1) && (backToKw cpos (keywordEach [] X.env)).all (fun x => x.1.isSome)
      && decide ((e :: es).length + ([] : List Keyword).length + (if ([] : List Keyword).isEmpty then 0 else 1) < 30)) = true
  line : (apos.endLine == cpos.line) = true
  star : starEach (e :: es) X.env = (false, eval e X.env) :: starEach es X.env
  plain : (backTo cpos (starEach es X.env)).any (·.1) = false
theorem pe_bmN (M : MForm X o name e es apos cpos) (pa : PlainAttrs T) (slot : Slot T name id) (hty : typeOf (.builtin id) = pure (.type "method_descriptor")) (hm : MtR X id r) (ho : PE X o to) (ha : PA X (e :: es) t) :
    PE X (.Call (.Attribute o name apos) (e :: es) [] cpos) (tBMN X.K T r to t) := by
  constructor
  intro pins s σ H Q I h
  refine wpAny_Call_method_late M.base M.few M.line rfl (thn (ho.run pins s σ H _ I h) ?_)
  rintro v s1 ⟨x, H1, I1, r1, ty, q1⟩
  obtain ⟨h1, h2⟩ := tyN_is I1 r1 ty
  refine ⟨T, id, pa, slot, hty, h1, h2, ?_⟩
  have hA := ha.run cpos pins s1 σ H1 _ I1 q1
  have st := M.star
  rw [st] at hA ⊢
  have pl : ((false, eval e X.env) :: backTo cpos (starEach es X.env)).any (·.1) = false := by rw [List.any_cons, M.plain]; rfl
  refine Calls.callWith_builtin pl (Calls.evalArgs_plain (thn hA ?_))
  rintro us s2 ⟨vs, H2, I2, r2, q2⟩
  exact hm pins s2 σ H2 x vs v us Q I2 r1 r2 q2
theorem _root_.L2.PE.or {X : Cx} {e : Expr} {t t' : TE} (h : PE X e t) (h' : PE X e t') : PE X e (fun σ H Q => t σ H Q ∨ t' σ H Q) := ⟨fun pins s σ H Q I w => by
  rcases w with w | w
  · exact h.run pins s σ H Q I w
  · exact h'.run pins s σ H Q I w⟩
end
abbrev KM := Va → List Va → Hs → Option (Va × Hs)
def PM1 (g : Gd) (r : V → List V → Hp → VK → Prop) (k : KM) : Prop := ∀ (ρ : List Addr) (H : Hp) (hp : Hs) (x : Va) (vx : V) (xs : List Va) (vs : List V) (v : Va) (h' : Hs) (Q : VK), Rh g ρ H hp → Rv g ρ H x vx → Rvs g ρ H xs vs → k x xs hp = some (v, h') →
  (∀ ρ' H' z, Sp1 ρ H ρ' H' → Rh g ρ' H' h' → Rv g ρ' H' v z → Q z H') → r vx vs H Q
def isTy (T : String) (x : Va) (h : Hs) : Bool := match x with
  | .tup _ => T == "tuple"
  | .str _ => T == "str"
  | .ref r => match h[r]? with
    | some (.lst _) => T == "list"
    | _ => false
  | _ => false
def dM (T : String) (k : KM) (fo : De) (fa : Da) : De := fun s h => (fo s h).bind fun x h1 => match isTy T x h1 with
  | true => (fa s h1).bind fun xs h2 => liftO (k x xs h2)
  | false => .no
/-- one of two types by the value -/
def dM2 (T : String) (k : KM) (T2 : String) (k2 : KM) (fo : De) (fa : Da) : De := fun s h => (fo s h).bind fun x h1 => match isTy T x h1 with
  | true => (fa s h1).bind fun xs h2 => liftO (k x xs h2)
  | false => match isTy T2 x h1 with
    | true => (fa s h1).bind fun xs h2 => liftO (k2 x xs h2)
    | false => .no
abbrev MtC (g : Gd) (id : String) (r : V → List V → Hp → VK → Prop) : Prop := ∀ X : Cx, X.K = g.K → X.A.units + 100 < cLine → MtR X id r
section
variable {g : Gd} {X : Cx} {W : WX} {n : Nat} {o e : Expr} {es : List Expr} {name : Str} {apos cpos : Pos} {T id : String} {r : V → List V → Hp → VK → Prop} {k : KM} {fo : De} {fa : Da}
theorem isTy_ok {ρ : List Addr} {H : Hp} {hp : Hs} {x : Va} {vx : V} (R : Rh g ρ H hp) (rx : Rv g ρ H x vx) (h : isTy T x hp = true) : tyN g.K T vx H := by
  cases x with
  | tup xs =>
    have : T = "tuple" := by simpa [isTy] using h
    subst this
    simp only [Rv] at rx
    obtain ⟨a, us, rfl, ht, rv⟩ := rx
    exact .inr ⟨rfl, a, us, rfl, ht⟩
  | str z =>
    have : T = "str" := by simpa [isTy] using h
    rw [rv_str rx]
    exact .inl this
  | ref i =>
    simp only [Rv] at rx
    obtain ⟨a, ha, rfl⟩ := rx
    unfold isTy at h
    simp only at h
    split at h
    · rename_i ys hy
      obtain ⟨us, e2, rv⟩ := R.obj i a _ ha hy
      exact .inl (.inl ⟨by simpa using h, us, .inl (.inl e2)⟩)
    · cases h
  | _ => exact nomatch h
theorem m_imp (pk : PM1 g r k) {σ : L2.St} {H : Hp} {Q : VK} (h : tE g W (dM T k fo fa) σ H Q) : tBMN g.K T r (tE g W fo) (tA g W fa) σ H Q := by
  obtain ⟨ρ, s, hp, R, L, h⟩ := h
  refine bE h R L fun x h1 ρ1 H1 vx S1 R1 r1 L1 p1 => ?_
  cases ty : isTy T x h1 with
  | false => rw [ty] at p1; exact p1.elim
  | true =>
    rw [ty] at p1
    refine ⟨isTy_ok R1 r1 ty, aBE p1 R1 L1 fun xs h2 ρ2 H2 vs S2 R2 r2 L2 p2 => ?_⟩
    cases q : k x xs h2 with
    | none => rw [q] at p2; exact p2.elim
    | some w =>
      obtain ⟨v, h3⟩ := w
      rw [q] at p2
      exact pk ρ2 H2 h2 x vx xs vs v h3 Q R2 (Rv.step R1 S2 _ _ r1) r2 q fun ρ3 H3 z S3 R3 r3 => p2 ρ3 H3 z S3 R3 r3
theorem e_meth (pa : PlainAttrs T) (slot : Slot T name id) (hty : typeOf (.builtin id) = pure (.type "method_descriptor")) (hm : MtC g id r) (pk : PM1 g r k) (ho : SE g X W n o fo) (ha : SA g X W n (e :: es) fa) (M : MForm X o name e es apos cpos := by exact ⟨rfl, rfl, rfl, rfl, rfl⟩) :
    SE g X W n (.Call (.Attribute o name apos) (e :: es) [] cpos) (dM T k fo fa) :=
  fun C => (pe_bmN M pa slot hty (hm X C.K C.units) (ho C) (ha C)).imp fun _ _ _ h => C.K ▸ m_imp pk h
theorem e_meth2 {T2 id2 : String} {r2 : V → List V → Hp → VK → Prop} {k2 : KM} (pa : PlainAttrs T) (slot : Slot T name id) (hty : typeOf (.builtin id) = pure (.type "method_descriptor")) (hm : MtC g id r) (pk : PM1 g r k)
    (pa2 : PlainAttrs T2) (slot2 : Slot T2 name id2) (hty2 : typeOf (.builtin id2) = pure (.type "method_descriptor")) (hm2 : MtC g id2 r2) (pk2 : PM1 g r2 k2) (ho : SE g X W n o fo) (ha : SA g X W n (e :: es) fa) (M : MForm X o name e es apos cpos := by exact ⟨rfl, rfl, rfl, rfl, rfl⟩) :
    SE g X W n (.Call (.Attribute o name apos) (e :: es) [] cpos) (dM2 T k T2 k2 fo fa) := by
  intro C
  refine (PE.or (pe_bmN M pa slot hty (hm X C.K C.units) (ho C) (ha C)) (pe_bmN M pa2 slot2 hty2 (hm2 X C.K C.units) (ho C) (ha C))).imp ?_
  rintro σ H Q ⟨ρ, s, hp, R, L, h⟩
  rw [C.K]
  unfold dM2 at h
  cases q : fo s hp with
  | no => rw [q] at h; exact h.elim
  | ex c h1 => rw [q] at h; exact .inl ⟨ρ, s, hp, R, L, by rw [q]; exact h⟩
  | ok x h1 =>
    rw [q] at h
    simp only [Rs.bind] at h
    cases ty : isTy T x h1 with
    | true =>
      rw [ty] at h
      refine .inl (m_imp pk ⟨ρ, s, hp, R, L, ?_⟩)
      unfold dM
      rw [q]
      simp only [Rs.bind, ty]
      exact h
    | false =>
      rw [ty] at h
      simp only at h
      cases ty2 : isTy T2 x h1 with
      | true =>
        rw [ty2] at h
        refine .inr (m_imp pk2 ⟨ρ, s, hp, R, L, ?_⟩)
        unfold dM
        rw [q]
        simp only [Rs.bind, ty2]
        exact h
      | false => rw [ty2] at h; exact h.elim
def kAppend : KM := fun x xs h => match x, xs with
  | .ref r, [y] => match h[r]? with
    | some (.lst ys) => if okN (ys.length + 1) then some (.non, h.set r (.lst (ys ++ [y]))) else none
    | _ => none
  | _, _ => none
theorem put_lst {ρ : List Addr} {H : Hp} {hp : Hs} {i : Nat} {a : Addr} {us ws : List V} {ys : List Va} (R : Rh g ρ H hp) (hi : ρ[i]? = some a) (e : H a = some (.lst us)) (rv : Rvs g ρ H ys ws) :
    Sp1 ρ H ρ (upd H a (.lst ws)) ∧ Rh g ρ (upd H a (.lst ws)) (hp.set i (.lst ys)) :=
  R.put hi (fun x y z => by rw [e] at z; cases z) fun S => ⟨ws, upd_same, Rvs.step R S _ _ rv⟩
def kExtend : KM := fun x xs h => match x, xs with
  | .ref r, [.ref t] => match h[r]? with
    | some (.lst ys) => match h[t]? with
      | some (.lst zs) => if okN (ys.length + zs.length) then some (.non, h.set r (.lst (ys ++ zs))) else none
      | _ => none
    | _ => none
  | _, _ => none
theorem m_extend : MtC g "list.extend" rExtend := fun X hK hu => mt_extend
theorem pm_extend : PM1 g rExtend kExtend := by
  intro ρ H hp x vx xs vs v h' Q R rx r e q
  unfold kExtend at e
  split at e
  · rename_i i t
    split at e
    · rename_i ys hy
      split at e
      · rename_i zs hzs
        by_cases hz : okN (ys.length + zs.length) = true
        · rw [if_pos hz] at e
          cases e
          simp only [Rv] at rx
          obtain ⟨a, ha, rfl⟩ := rx
          obtain ⟨us, e2, rv⟩ := R.obj i a _ ha hy
          obtain ⟨w, rfl, rw'⟩ := r.inv1
          simp only [Rv] at rw'
          obtain ⟨b, hb, rfl⟩ := rw'
          obtain ⟨us2, e3, rv2⟩ := R.obj t b _ hb hzs
          obtain ⟨S1, R1⟩ := put_lst R ha e2 (rv.append rv2)
          exact ⟨a, b, us, us2, rfl, rfl, e2, e3, by rw [← rv.length, ← rv2.length]; exact okN_le hz, q _ _ _ S1 R1 mk_non⟩
        · rw [if_neg hz] at e; cases e
      · cases e
    · cases e
  · cases e
def findD (d : PyData) : List PyData → Option Nat
  | [] => none
  | z :: t => if PyData.eqv z d then some 0 else (findD d t).map (· + 1)
theorem findD_ok {d : PyData} : ∀ {ds : List PyData} {j : Nat}, findD d ds = some j → ∃ z, ds[j]? = some z ∧ PyData.eqv z d = true ∧ ∀ (m : Nat) (z' : PyData), m < j → ds[m]? = some z' → PyData.eqv z' d = false
  | [], _, h => by cases h
  | z :: t, j, h => by
    unfold findD at h
    by_cases hz : PyData.eqv z d = true
    · rw [if_pos hz] at h
      cases h
      exact ⟨z, rfl, hz, fun m z' hm => absurd hm (Nat.not_lt_zero _)⟩
    · rw [if_neg hz] at h
      obtain ⟨i, hi, rfl⟩ := Option.map_eq_some_iff.mp h
      obtain ⟨w, h1, h2, h3⟩ := findD_ok hi
      refine ⟨w, by simpa using h1, h2, fun m z' hm hz' => ?_⟩
      cases m with
      | zero => simp at hz'; subst hz'; simpa using hz
      | succ m => exact h3 m z' (by omega) (by simpa using hz')
def kIndex : KM := fun x xs h => match xs with
  | [y] => match toD h 9 y with
    | some d => match toD h 9 x with
      | some (.list ds) => (findD d ds).map fun (j : Nat) => (.int (j : Int), h)
      | some (.tuple ds) => (findD d ds).map fun (j : Nat) => (.int (j : Int), h)
      | _ => none
    | none => none
  | _ => none
/-- t.index(x) of a tuple of data -/
def rIndexT (K : PySem.W.Frag) : V → List V → Hp → VK → Prop := fun x xs H Q => ∃ (y : V) (d : PyData) (ds : List PyData) (j : Nat), xs = [y] ∧ Dp K H x (.tuple ds) ∧ Dp K H y d ∧
  SeqAt.shaped (.tuple ds) = true ∧ SeqAt.shaped d = true ∧ findD d ds = some j ∧ Q (.int (j : Nat)) H
theorem m_indexT : MtC g "tuple.index" (rIndexT g.K) := by
  intro X hK hu pins s σ H x xs v us Q I rx rxs h
  rw [← hK] at h
  obtain ⟨y, d, ds, j, rfl, hl, hy, sl, sd, hf, q⟩ := h
  obtain ⟨uy, rfl, ry⟩ := vals1 rxs
  obtain ⟨z, hz, hzj, hno⟩ := findD_ok hf
  obtain ⟨bs, r1⟩ := Dp.reads I d y uy hy ry
  obtain ⟨as, r2⟩ := Dp.reads I (.tuple ds) x v hl rx
  have lay : PyData.canLayAll0 ds = true := SeqAt.canLay_of_shaped sl
  have room : X.A.units + 1 + min (PyData.depthAll ds) d.depth < cLine := PyProof.Rows.room_in_shaped sd (by omega)
  cases r2 with
  | tuple h1 h2 h3 h4 =>
    rename_i a o its m
    obtain ⟨cls, dd, data, sls⟩ := o
    simp only at h2 h3
    subst h2 h3
    have hn : its.toList.length = ds.length := SeqAt.ReadsAll.length ds its.toList _ h4
    have hmap : its.toList.map (SeqAt.readOf s.heap) = ds := SeqAt.readsAll_map ds its.toList _ lay h4
    have hjd : j < ds.length := (List.getElem?_eq_some_iff.mp hz).1
    have hj : j < its.size := by rw [← Array.length_toList, hn]; exact hjd
    have at_ : ∀ (m : Nat) (hm : m < its.size) (z' : PyData), ds[m]? = some z' → SeqAt.readOf s.heap its[m] = z' := by
      intro m hm z' hz'
      rw [← hmap, List.getElem?_map, List.getElem?_eq_getElem (by simpa using hm)] at hz'
      simpa using hz'
    refine call_meets PySem.F.slot_tuple_index ⟨_, h1, rfl⟩ PySem.F.entry_tuple_index (PySem.F.args_tuple_index_2 _ _)
      (TI.tuple_indexAt a its m dd sls uy (fun u => PyData.eqv (SeqAt.readOf s.heap u) d) j hj ?_ ?_) ⟨h1, SeqAt.items_eqAt (vs := its) h4 r1 lay (SeqAt.canLay_of_shaped sd) room, ⟨.int (j : Nat), H, I.tok _, ⟨_, rfl⟩, q⟩⟩
    · show PyData.eqv (SeqAt.readOf s.heap its[j]) d = true
      rw [at_ j hj z hz]; exact hzj
    · intro m hm hmj
      have hmd : m < ds.length := by omega
      show PyData.eqv (SeqAt.readOf s.heap its[m]) d = false
      rw [at_ m hm _ (List.getElem?_eq_getElem hmd)]
      exact hno m _ hmj (List.getElem?_eq_getElem hmd)
theorem pm_indexT : PM1 g (rIndexT g.K) (fun x xs h => match x with
    | .tup _ => kIndex x xs h
    | _ => none) := by
  intro ρ H hp x vx xs vs v h' Q R rx r e q
  simp only at e
  split at e
  · unfold kIndex at e
    split at e
    · split at e
      · rename_i d hd
        obtain ⟨w, rfl, rw'⟩ := r.inv1
        split at e
        · rename_i ds hds
          unfold toD at hds
          obtain ⟨_, _, z⟩ := Option.map_eq_some_iff.mp hds
          cases z
        · rename_i ds hds
          obtain ⟨j, hj, e⟩ := Option.map_eq_some_iff.mp e
          cases e
          exact ⟨w, d, ds, j, rfl, toD_dp R 9 _ vx _ rx hds, toD_dp R 9 _ w d rw' hd, toD_shaped hds, toD_shaped hd, hj, q ρ H _ (.refl _ _) R mk_int⟩
        · cases e
      · cases e
    · cases e
  · cases e
def kIndexT : KM := fun x xs h => match x with
  | .tup _ => kIndex x xs h
  | _ => none
def kIndexL : KM := fun x xs h => match x with
  | .ref _ => kIndex x xs h
  | _ => none
theorem m_indexL : MtC g "list.index" (rIndexD g.K) := fun X hK hu => hK ▸ mt_indexD (by omega)
theorem pm_indexL : PM1 g (rIndexD g.K) kIndexL := by
  intro ρ H hp x vx xs vs v h' Q R rx r e q
  unfold kIndexL at e
  split at e
  · rename_i i
    have rx' := rx
    simp only [Rv] at rx'
    obtain ⟨a, ha, rfl⟩ := rx'
    unfold kIndex at e
    split at e
    · split at e
      · rename_i d hd
        obtain ⟨w, rfl, rw'⟩ := r.inv1
        split at e
        · rename_i ds hds
          obtain ⟨j, hj, e⟩ := Option.map_eq_some_iff.mp e
          cases e
          obtain ⟨z, hz, hzj, hno⟩ := findD_ok hj
          exact ⟨a, w, d, ds, j, z, rfl, rfl, toD_dp R 9 _ _ _ rx hds, toD_dp R 9 _ w d rw' hd, toD_shaped hds, toD_shaped hd, hz, hzj, hno, q ρ H _ (.refl _ _) R mk_int⟩
        · rename_i ds hds
          unfold toD at hds
          split at hds
          · obtain ⟨_, _, z⟩ := Option.map_eq_some_iff.mp hds
            cases z
          · cases hds
        · cases e
      · cases e
    · cases e
  · cases e
theorem e_index {fo : De} {fa : Da} (ho : SE g X W n o fo) (ha : SA g X W n [e] fa) (M : MForm X o "index" e [] apos cpos := by exact ⟨rfl, rfl, rfl, rfl, rfl⟩) :
    SE g X W n (.Call (.Attribute o "index" apos) [e] [] cpos) (dM2 "tuple" kIndexT "list" kIndexL fo fa) :=
  e_meth2 PySem.F.plainAttrs_tuple PySem.F.slot_tuple_index PySem.F.type_tuple_index m_indexT pm_indexT PySem.F.plainAttrs_list PySem.F.slot_list_index PySem.F.type_list_index m_indexL pm_indexL ho ha M
theorem e_extend {fo : De} {fa : Da} (ho : SE g X W n o fo) (ha : SA g X W n [e] fa) (M : MForm X o "extend" e [] apos cpos := by exact ⟨rfl, rfl, rfl, rfl, rfl⟩) :
    SE g X W n (.Call (.Attribute o "extend" apos) [e] [] cpos) (dM "list" kExtend fo fa) :=
  e_meth PySem.F.plainAttrs_list PySem.F.slot_list_extend PySem.F.type_list_extend m_extend pm_extend ho ha M
end
end Wr
set_option Elab.async false
set_option linter.all false
set_option maxRecDepth 100000
set_option maxHeartbeats 4000000
set_option autoImplicit false
namespace Wr
open PySem PySem.Spec PyProof.Rows L2
theorem rev_adjust (n : Nat) : Builtin.Slice.sliceAdjust none none (-1) (n : Int) = ((n : Int) - 1, -1) := by
  unfold Builtin.Slice.sliceAdjust
  simp
theorem rev_places (n : Nat) : Builtin.Slice.slicePlaces ((n : Int) - 1) (-1) (-1) = n := by
  unfold Builtin.Slice.slicePlaces
  have h1 : ¬ ((-1 : Int) > 0) := by omega
  simp only [h1, if_false]
  by_cases h : (-1 : Int) < (n : Int) - 1
  · rw [if_pos h]
    have : ((n : Int) - 1 - -1 - 1) / - -1 + 1 = (n : Int) := by simp
    omega
  · rw [if_neg h]; omega
theorem fm_map {α β : Type} {f : α → Option β} {g : α → β} : ∀ {l : List α}, (∀ k ∈ l, f k = some (g k)) → l.filterMap f = l.map g
  | [], _ => rfl
  | x :: l, h => by
    rw [List.filterMap_cons, h x List.mem_cons_self, List.map_cons, fm_map fun k hk => h k (List.mem_cons_of_mem _ hk)]
theorem rev_pick (xs : Array Value) : ((List.range xs.size).filterMap fun (k : Nat) => xs[(((xs.size : Int) - 1) + (k : Int) * (-1)).toNat]?).toArray = xs.toList.reverse.toArray := by
  congr 1
  apply List.ext_getElem?
  intro i
  have e : ∀ k ∈ List.range xs.size, (fun (k : Nat) => xs[(((xs.size : Int) - 1) + (k : Int) * (-1)).toNat]?) k = some ((fun k => xs.getD (xs.size - 1 - k) .none) k) := by
    intro k hk
    have hk := List.mem_range.mp hk
    have e1 : (((xs.size : Int) - 1) + (k : Int) * (-1)).toNat = xs.size - 1 - k := by omega
    have hl : xs.size - 1 - k < xs.size := by omega
    simp only [e1]
    rw [Array.getElem?_eq_getElem hl]
    simp [Array.getD, hl]
  rw [fm_map e]
  by_cases hi : i < xs.size
  · have hl : xs.size - 1 - i < xs.size := by omega
    rw [List.getElem?_map, List.getElem?_range hi, List.getElem?_reverse (by simpa using hi)]
    simp [Array.getD, hl]
  · rw [List.getElem?_map, List.getElem?_eq_none (by simp; omega), List.getElem?_eq_none (by simp; omega)]
    rfl
section
variable {prog : Program} {w : World} {A : Around} {E : Value → Shared → Prop} {s : Shared}
theorem rev_applied {sl : Addr} {vl vu vs : Value} {n : Nat} {Q : Int × Int × Nat → Shared → Prop} (hs : s.heap.IsSliceOf sl vl vu vs) (pl : IsPart vl none) (pu : IsPart vu none) (ps : IsPart vs (some (-1))) (h : Q ((n : Int) - 1, -1, n) s) :
    wpAny (model prog w) A (Builtin.Slice.sliceApplied (.ref sl) (pure (n : Int))) Q E s := by
  obtain ⟨os, hos, hcs, hds⟩ := id hs
  unfold Builtin.Slice.sliceApplied Builtin.Slice.sliceFields
  refine wpAny_bind (wpAny_bind (wpAny_field hos hds (x := vl) rfl (wpAny_bind (wpAny_field hos hds (x := vu) rfl (wpAny_bind (wpAny_field hos hds (x := vs) rfl (wpAny_pure ?_)))))))
  refine wpAny_bind (HT.slicePart_ ps ?_)
  show wpAny _ _ (if ((-1 : Int) == 0) = true then _ else _) _ _ s
  rw [if_neg (by decide)]
  refine wpAny_bind (HT.slicePart_ pl (wpAny_bind (HT.slicePart_ pu (wpAny_bind (wpAny_pure ?_)))))
  show wpAny _ _ (match Builtin.Slice.sliceAdjust none none (-1) (n : Int) with | (lo, hi) => pure (lo, (-1 : Int), Builtin.Slice.slicePlaces lo hi (-1))) _ _ s
  rw [rev_adjust n]
  show wpAny _ _ (pure ((n : Int) - 1, (-1 : Int), Builtin.Slice.slicePlaces ((n : Int) - 1) (-1) (-1))) _ _ s
  rw [rev_places]
  exact wpAny_pure h
theorem getItem_tuple_rev {t sl : Addr} {items : Array Value} {vl vu vs : Value} {Q : Value → Shared → Prop} (ht : IsTup s.heap t items) (hs : s.heap.IsSliceOf sl vl vu vs) (pl : IsPart vl none) (pu : IsPart vu none) (ps : IsPart vs (some (-1)))
    (h : Q (.ref s.heap.objs.size) { s with heap := s.heap.push (tupO items.toList.reverse) }) (hsz : items.size ≤ sizeLine) : wpAny (model prog w) A (getItem (.ref t) (.ref sl)) Q E s := by
  have htake : sizeOk (.seq items.toList.reverse.toArray) := by
    show items.toList.reverse.toArray.size ≤ sizeLine
    simpa using hsz
  obtain ⟨os, hos, hcs, hds⟩ := id hs
  have hTs : s.TypeIs (.ref sl) "slice" := ⟨os, hos, hcs⟩
  unfold getItem
  try with_reducible refine wpAny_holding ?_
  first | refine wpAny_bind (wpAny_pure ?_) | skip
  refine wpAny_bind (wpAny_sequenceKey ht.typeIs (by decide) ?_)
  refine wpAny_bind (wpAny_callSpecial?_slot (name := Str.ofString "__getitem__") ht.typeIs PyProof.Rows.slot_tuple_getitem (wpAny_call_entry PyProof.Rows.slot_tuple_getitem ht.typeIs entry_tuple_getitem ?_ (args_tuple_getitem _ _)))
  show wpAny _ _ (Builtin.Tuple.tupleItemsOf (.ref t) >>= _) _ _ s
  refine wpAny_bind (tupleItemsOf_ ht (wpAny_bind (wpAny_typeOf hTs ?_)))
  rw [if_pos (by decide)]
  refine wpAny_bind (rev_applied hs pl pu ps ?_)
  have hno : ¬ (((((items.size : Int) - 1) : Int) == 0 && (-1 : Int) == 1 && items.size == items.size) = true) := by simp
  show wpAny _ _ (if ((((items.size : Int) - 1) : Int) == 0 && (-1 : Int) == 1 && items.size == items.size) = true then _ else _) _ _ s
  rw [if_neg hno, rev_pick]
  first
    | exact wpAny_bind (m := Builtin.Tuple.tupleExact _) (wpAny_newObj_type (wpAny_pure ⟨_, rfl, wpAny_pure h⟩) htake)
    | exact wpAny_bind (m := Builtin.Tuple.tupleExact _) (wpAny_newObj_type (wpAny_bind (wpAny_pure (wpAny_pure ⟨_, rfl, wpAny_pure h⟩))) htake)
    | exact wpAny_bind (wpAny_bind (m := Builtin.Tuple.tupleExact _) (wpAny_newObj_type (wpAny_pure (wpAny_pure ⟨_, rfl, wpAny_pure h⟩)) htake))
    | exact wpAny_bind (wpAny_bind (m := Builtin.Tuple.tupleExact _) (wpAny_newObj_type (wpAny_pure ⟨_, rfl, wpAny_pure h⟩) htake))
end
section
variable {g : Gd} {X : Cx} {W : WX} {n : Nat} {pos p1 p2 p3 : Pos} {e : Expr} {k : Nat}
theorem Vals.rev {xs : List V} {us : List Value} (r : Vals xs us) : Vals xs.reverse us.reverse := r.reverse
theorem pe_revN {te : TE} (he : PE X e te) : PE X (.Subscript e (.Slice none none (some (.UnaryOp .USub (.Constant (.int 1) k p1) p2)) p3) pos) (rRevN X.K te) := by
  constructor
  intro pins s σ H Q I h
  refine Subscript_ (thn (he.run pins s σ H _ I h) ?_)
  rintro v s1 ⟨x, H1, I1, r1, a, xs, rfl, hx, q⟩
  cases r1
  have step : PO X (some (.UnaryOp .USub (.Constant (.int 1) k p1) p2)) (tPart (tUn (rU fun i => .int (-i)) (tC (.int 1)))) := po_some (pe_un un_neg pe_int)
  refine wpAny_Slice (thn (po_none.run pins s1 σ H1 (fun o H2 => o = none ∧ H2 = H1) I1 ⟨rfl, rfl⟩) ?_)
  rintro vl s2 ⟨l, H2, I2, pl, rfl, rfl⟩
  refine thn (po_none.run pins s2 σ H2 (fun o H3 => o = none ∧ H3 = H2) I2 ⟨rfl, rfl⟩) ?_
  rintro vu s3 ⟨u, H3, I3, pu, rfl, rfl⟩
  refine thn (step.run pins s3 σ H3 (fun o H4 => o = some (-1) ∧ H4 = H3) I3 ⟨1, rfl, -1, rfl, rfl, rfl⟩) ?_
  rintro vs s4 ⟨o, H4, I4, ps, rfl, rfl⟩
  have I5 : Inv X pins σ H4 { s4 with heap := s4.heap.push { cls := .type "slice", data := .fields #[vl, vu, vs] } } := I4.kept (t' := s4.toks) fun b ob q => Heap.get?_push_of_some _ q
  obtain ⟨its, r, ht, hz⟩ := I5.tuple hx
  show wpAny (model X.prog X.w) X.A (subscriptTail e (.Slice none none (some (.UnaryOp .USub (.Constant (.int 1) k p1) p2)) p3) (.ref a) (.ref s4.heap.objs.size)) (EP X pins σ Q) X.xe { s4 with heap := s4.heap.push { cls := .type "slice", data := .fields #[vl, vu, vs] } }
  refine tail_any (ops := [.ref a, .ref s4.heap.objs.size]) ht.typeIs PyProof.Rows.slot_tuple_getitem.lookup ?_ (by with_unfolding_all rfl)
  refine getItem_tuple_rev ht (Heap.IsSliceOf.new _ vl vu vs) pl pu ps ?_ (by rw [List.size_toArray, ← r.length]; exact hz)
  exact EP.newN (s := { s4 with heap := s4.heap.push { cls := .type "slice", data := .fields #[vl, vu, vs] } }) (t' := s4.toks) I5 (fun b ob q => Heap.get?_push_of_some _ q) (Nat.le_refl _) (Heap.get?_push_size _ rfl) r.reverse (by simpa using hz) q
theorem e_rev {f : De} (he : SE g X W n e f) : SE g X W n (.Subscript e (.Slice none none (some (.UnaryOp .USub (.Constant (.int 1) k p1) p2)) p3) pos) (dRev f) := by
  intro C
  refine (PE.or (pe_revN (he C)) (pe_revL (he C))).imp ?_
  rintro σ H Q ⟨ρ, s, hp, R, L, h⟩
  rw [C.K]
  unfold dRev at h
  cases q : f s hp with
  | no => rw [q] at h; exact h.elim
  | ex c h1 => rw [q] at h; exact .inl ⟨ρ, s, hp, R, L, by rw [q]; exact h⟩
  | ok x h1 =>
    rw [q] at h
    simp only [Rs.bind] at h
    cases x with
    | tup xs =>
      refine .inl ⟨ρ, s, hp, R, L, ?_⟩
      rw [q]
      intro ρ1 H1 vx S1 R1 r1
      simp only [Rv] at r1
      obtain ⟨a, vs, rfl, ht, rv⟩ := r1
      refine ⟨a, vs, rfl, ht.sqT, fun p us hn => ?_⟩
      obtain ⟨S2, R2, r2⟩ := new_tup (us := us) R1 hn rv.reverse
      exact h _ _ _ (S1.trans S2) R2 r2
    | ref i =>
      unfold kRev at h
      simp only at h
      split at h
      · rename_i xs hx
        refine .inr ⟨ρ, s, hp, R, L, ?_⟩
        rw [q]
        intro ρ1 H1 vx S1 R1 r1
        simp only [Rv] at r1
        obtain ⟨a, ha, rfl⟩ := r1
        obtain ⟨vs, e2, rv⟩ := R1.obj i a _ ha hx
        refine ⟨a, vs, rfl, .inl (.inl e2), fun p hn => ?_⟩
        obtain ⟨S2, R2, r2⟩ := new_lst R1 hn rv.reverse
        exact h _ _ _ (S1.trans S2) R2 r2
      · exact h.elim
    | _ => exact h.elim
end
end Wr
set_option Elab.async false
set_option linter.all false
set_option maxRecDepth 100000
set_option maxHeartbeats 4000000
set_option autoImplicit false
namespace Wr
open PySem PySem.Spec PyProof.Rows L2
section
variable {P : Program} {w : World} {A : Around} {E : Value → Shared → Prop} {s : Shared}
abbrev newSt (w : World) : Obj := { cls := .type "set", dict := none, data := .set #[] 0 (.fresh 0 0 (!w.params.followText "set-order")) }
end
end Wr
set_option Elab.async false
set_option linter.all false
set_option maxRecDepth 100000
set_option maxHeartbeats 4000000
set_option autoImplicit false
namespace Wr
open PySem PySem.Spec PyProof.Rows L2
section
variable {κ : Type} [DecidableEq κ]
def gK : List (κ × Va) → κ → Option Va
  | [], _ => none
  | (j, v) :: t, k => if decide (j = k) then some v else gK t k
def pK (kvs : List (κ × Va)) (k : κ) (v : Va) : List (κ × Va) :=
  if (kvs.any fun kv => decide (kv.1 = k)) = true then kvs.map (fun kv => if kv.1 = k then (kv.1, v) else kv) else kvs ++ [(k, v)]
variable {g : Gd} {ρ : List Addr} {H : Hp}
theorem Rkv.get : ∀ {kvs : List (κ × Va)} {ws : List (κ × V)} {k : κ} {v : Va}, Rkv g ρ H kvs ws → gK kvs k = some v → ∃ x, valV ws k = some x ∧ Rv g ρ H v x
  | [], _, _, _, _, e => by cases e
  | (j, u) :: t, _, k, v, h, e => by
    obtain ⟨x, r, rfl, h1, h2⟩ := h
    unfold gK at e
    by_cases hj : j = k
    · rw [if_pos (decide_eq_true hj)] at e
      cases e
      exact ⟨x, valV_pos hj, h1⟩
    · rw [if_neg (fun z => hj (of_decide_eq_true z))] at e
      rw [valV_neg hj]
      exact Rkv.get h2 e
theorem Rkv.keys : ∀ {kvs : List (κ × Va)} {ws : List (κ × V)}, Rkv g ρ H kvs ws → kvs.map (·.1) = ws.map (·.1)
  | [], _, h => by cases h; rfl
  | (j, u) :: t, _, h => by
    obtain ⟨x, r, rfl, h1, h2⟩ := h
    simp [Rkv.keys h2]
end
theorem Rkv.length {κ : Type} {g : Gd} {ρ : List Addr} {H : Hp} : ∀ {kvs : List (κ × Va)} {ws : List (κ × V)}, Rkv g ρ H kvs ws → kvs.length = ws.length
  | [], _, h => by cases h; rfl
  | (j, u) :: t, _, h => by
    obtain ⟨x, r, rfl, h1, h2⟩ := h
    simp [Rkv.length h2]
section
variable {κ : Type} [DecidableEq κ] {g : Gd} {ρ : List Addr} {H : Hp}
theorem Rkv.any : ∀ {kvs : List (κ × Va)} {ws : List (κ × V)} (k : κ), Rkv g ρ H kvs ws → (kvs.any fun kv => decide (kv.1 = k)) = (ws.any fun kv => decide (kv.1 = k))
  | [], _, _, h => by cases h; rfl
  | (j, u) :: t, _, k, h => by
    obtain ⟨x, r, rfl, h1, h2⟩ := h
    simp only [List.any_cons, Rkv.any k h2]
theorem Rkv.mapped {v : Va} {x : V} (rv : Rv g ρ H v x) : ∀ {kvs : List (κ × Va)} {ws : List (κ × V)} (k : κ), Rkv g ρ H kvs ws → Rkv g ρ H (kvs.map fun kv => if kv.1 = k then (kv.1, v) else kv) (ws.map fun kv => if kv.1 = k then (kv.1, x) else kv)
  | [], _, _, h => by cases h; rfl
  | (j, u) :: t, _, k, h => by
    obtain ⟨y, r, rfl, h1, h2⟩ := h
    simp only [List.map_cons]
    by_cases hj : j = k
    · rw [if_pos hj, if_pos hj]
      exact ⟨x, _, rfl, rv, Rkv.mapped rv k h2⟩
    · rw [if_neg hj, if_neg hj]
      exact ⟨y, _, rfl, h1, Rkv.mapped rv k h2⟩
theorem Rkv.snoc {v : Va} {x : V} (rv : Rv g ρ H v x) : ∀ {kvs : List (κ × Va)} {ws : List (κ × V)} (k : κ), Rkv g ρ H kvs ws → Rkv g ρ H (kvs ++ [(k, v)]) (ws ++ [(k, x)])
  | [], _, k, h => by cases h; exact ⟨x, [], rfl, rv, rfl⟩
  | (j, u) :: t, _, k, h => by
    obtain ⟨y, r, rfl, h1, h2⟩ := h
    exact ⟨y, _, rfl, h1, Rkv.snoc rv k h2⟩
theorem Rkv.put {v : Va} {x : V} (rv : Rv g ρ H v x) {kvs : List (κ × Va)} {ws : List (κ × V)} (k : κ) (h : Rkv g ρ H kvs ws) : Rkv g ρ H (pK kvs k v) (putK ws k x) := by
  unfold pK putK
  rw [Rkv.any k h]
  split
  · exact Rkv.mapped rv k h
  · exact Rkv.snoc rv k h
end
def keyOf (x : Va) : Option Key := match x with
  | .int i => some (.inl i)
  | .str x => some (.inr x)
  | _ => none
theorem keyOf_rv {g : Gd} {ρ : List Addr} {H : Hp} {x : Va} {v : V} {k : Key} (r : Rv g ρ H x v) (e : keyOf x = some k) : v = kV k := by
  unfold keyOf at e
  split at e
  · cases e; simp only [Rv] at r; subst r; rfl
  · cases e; simp only [Rv] at r; subst r; rfl
  · cases e
def kDg : K2 := fun x y h => match x with
  | .ref r => match h[r]? with
    | some (.dK kvs) => (keyOf y).bind fun k => (gK kvs k).map fun v => (v, h)
    | some (.dF kvs) => (keyOf y).bind fun k => (gK kvs k).map fun v => (v, h)
    | _ => none
  | _ => none
def rDg : R2 := fun x y H Q => ∃ a v, x = .ref a ∧ DGet H a y (some v) ∧ Q v H
def kIxU : K2 := fun x y h => match kIx x y h with
  | some r => some r
  | none => kDg x y h
section
variable {g : Gd} {X : Cx} {W : WX} {n : Nat} {pos : Pos}
theorem p_dg : P2 g rDg kDg := by
  intro ρ H hp x y vx vy v h' Q R rx ry e q
  unfold kDg at e
  split at e
  · rename_i r
    simp only [Rv] at rx
    obtain ⟨a, ha, rfl⟩ := rx
    split at e
    · rename_i kvs hx
      obtain ⟨k, hk, e⟩ := Option.bind_eq_some_iff.mp e
      obtain ⟨u, hu, e⟩ := Option.map_eq_some_iff.mp e
      cases e
      obtain ⟨ws, e2, rk⟩ := R.obj r a _ ha hx
      obtain ⟨z, hz, rz⟩ := rk.get hu
      refine ⟨a, z, rfl, ?_, q ρ H _ (.refl _ _) R rz⟩
      rw [keyOf_rv ry hk, ← hz]
      exact DGet.k e2
    · rename_i kvs hx
      obtain ⟨k, hk, e⟩ := Option.bind_eq_some_iff.mp e
      obtain ⟨u, hu, e⟩ := Option.map_eq_some_iff.mp e
      cases e
      obtain ⟨o, ws, e2, rk⟩ := R.obj r a _ ha hx
      obtain ⟨z, hz, rz⟩ := rk.get hu
      refine ⟨a, z, rfl, ?_, q ρ H _ (.refl _ _) R rz⟩
      rw [keyOf_rv ry hk, ← hz]
      exact .inl ⟨ws, k, .inr ⟨o, e2⟩, rfl, rfl⟩
    · cases e
  · cases e
theorem dOp_or {k1 k2 k : K2} (hk : ∀ x y h, k x y h = k1 x y h ∨ k x y h = k2 x y h) (fa fb : De) (s : Sg) (h : Hs) : dOp k fa fb s h = dOp k1 fa fb s h ∨ dOp k fa fb s h = dOp k2 fa fb s h := by
  unfold dOp
  cases fa s h with
  | no => exact .inl rfl
  | ex c h1 => exact .inl rfl
  | ok x h1 =>
    simp only [Rs.bind]
    cases fb s h1 with
    | no => exact .inl rfl
    | ex c h1 => exact .inl rfl
    | ok y h2 =>
      simp only
      rcases hk x y h2 with e | e
      · rw [e]; exact .inl rfl
      · rw [e]; exact .inr rfl
theorem kIxU_or (x y : Va) (h : Hs) : kIxU x y h = kIx x y h ∨ kIxU x y h = kDg x y h := by
  unfold kIxU
  cases kIx x y h with
  | none => exact .inr rfl
  | some r => exact .inl rfl
theorem e_ixU {a b : Expr} {fa fb : De} (ha : SE g X W n a fa) (hb : SE g X W n b fb) (hs : PlainIx b := by exact fun _ _ => rfl) : SE g X W n (.Subscript a b pos) (dOp kIxU fa fb) := by
  intro C
  refine (PE.or (e_ix (pos := pos) ha hb hs C) (pe_dget (pos := pos) (by have := C.units; omega) (ha C) (hb C) hs)).imp ?_
  rintro σ H Q ⟨ρ, s, hp, R, L, h⟩
  rcases dOp_or kIxU_or fa fb s hp with e | e
  · rw [e] at h
    exact .inl ⟨ρ, s, hp, R, L, h⟩
  · rw [e] at h
    exact .inr (op_imp p_dg ⟨ρ, s, hp, R, L, h⟩)
def dPutK (k : Va → Va → Va → Hs → Option Hs) (fo fi fv : De) : Ds := fun s h => (fv s h).bindS s fun v h1 => (fo s h1).bindS s fun o h2 => (fi s h2).bindS s fun i h3 => match k o i v h3 with
  | some h4 => .nx s h4
  | none => .no
theorem _root_.L2.PS.or {X : Cx} {e : Stmt} {t t' : TS} (h : PS X e t) (h' : PS X e t') : PS X e (fun D σ H => t D σ H ∨ t' D σ H) := ⟨fun pins s σ H D I w => by
  rcases w with w | w
  · exact h.run pins s σ H D I w
  · exact h'.run pins s σ H D I w⟩
def dNewD : De := fun _ h => .ok (.ref h.length) (h ++ [.dK []])
theorem e_dnew : SE g X W n (.Dict [] [] pos) dNewD := by
  intro C
  refine pe_dnewK.imp ?_
  rintro σ H Q ⟨ρ, s, hp, R, L, h⟩ p hn
  obtain ⟨S2, R2⟩ := R.new (u := .dK []) (o := .dK []) hn fun S => ⟨[], upd_same, rfl⟩
  exact h _ _ _ S2 R2 (by simp only [Rv]; exact ⟨p, by rw [← R.len]; simp, rfl⟩)
end
end Wr
set_option Elab.async false
set_option linter.all false
set_option maxRecDepth 100000
set_option maxHeartbeats 4000000
set_option autoImplicit false
namespace Wr
open PySem PySem.Spec PyProof.Rows L2
section
variable {g : Gd} {X : Cx} {W : WX} {n : Nat} {pos : Pos}
def pairsOf : List Va → Option (List (Key × Va))
  | [] => some []
  | x :: t => match x with
    | .tup [a, b] => match keyOf a with
      | some k => match pairsOf t with
        | some r => some ((k, b) :: r)
        | none => none
      | none => none
    | _ => none
end
end Wr
set_option Elab.async false
set_option linter.all false
set_option maxRecDepth 100000
set_option maxHeartbeats 4000000
set_option autoImplicit false
namespace Wr
open PySem PySem.Spec PyProof.Rows L2
section
variable {g : Gd} {X : Cx} {W : WX} {n : Nat} {pos : Pos}
theorem ScrAt.sq {H : Hp} (h : ScrAt g H) : SqL g.K H g.sa (g.ns.map V.int) := by
  rcases h with ⟨o, h⟩ | h
  · exact .inl (.inr ⟨o, h⟩)
  · exact .inr h
def kLenS (ns : List Int) : K1 := fun xs h => match xs with
  | [.scr] => some (.int ns.length, h)
  | _ => none
theorem p_lenS : PC1 g (rLenA g.K) (kLenS g.ns) := by
  intro ρ H hp xs vs v h' Q R r e q
  unfold kLenS at e
  split at e
  · cases e
    obtain ⟨w, rfl, rw'⟩ := r.inv1
    simp only [Rv] at rw'
    obtain ⟨rfl, hs⟩ := rw'
    exact .inl ⟨g.sa, _, rfl, .inl hs.sq, by rw [List.length_map]; exact q ρ H _ (.refl _ _) R mk_int⟩
  · cases e
def kIxS (ns : List Int) : K2 := fun x y h => match x, y with
  | .scr, .int i => (L2.atI ns i).map fun v => (.int v, h)
  | _, _ => none
theorem atI_map {ns : List Int} {i v : Int} (e : L2.atI ns i = some v) : L2.atI (ns.map V.int) i = some (.int v) := by
  unfold L2.atI at e ⊢
  rw [List.length_map]
  cases hj : ixN ns.length i with
  | none => rw [hj] at e; cases e
  | some j =>
    rw [hj] at e
    simp only [Option.bind_some] at e ⊢
    rw [List.getElem?_map, e]; rfl
theorem p_ixS : P2 g (rIx g.K) (kIxS g.ns) := by
  intro ρ H hp x y vx vy v h' Q R rx ry e q
  unfold kIxS at e
  split at e
  · rename_i i
    obtain ⟨w, hw, e⟩ := Option.map_eq_some_iff.mp e
    cases e
    simp only [Rv] at rx
    obtain ⟨rfl, hs⟩ := rx
    exact .inl ⟨g.sa, _, i, _, rfl, rv_int ry, hs.sq, atI_map hw, q ρ H _ (.refl _ _) R mk_int⟩
  · cases e
theorem e_ixS {a b : Expr} {fa fb : De} (ha : SE g X W n a fa) (hb : SE g X W n b fb) (hs : PlainIx b := by exact fun _ _ => rfl) : SE g X W n (.Subscript a b pos) (dOp (kIxS g.ns) fa fb) :=
  fun C => (pe_ix ix_seq (ha C) (hb C) hs).imp fun _ _ _ h => C.K ▸ op_imp p_ixS h
theorem dp_ints {K : PySem.W.Frag} {H : Hp} : ∀ ns : List Int, DpAll K H (ns.map V.int) (ns.map PyData.int)
  | [] => .nil
  | x :: t => .cons (.int x) (dp_ints t)
theorem lay_ints : ∀ ns : List Int, PyData.canLayAll0 (ns.map PyData.int) = true ∧ PyData.depthAll (ns.map PyData.int) = 0
  | [] => by simp [PyData.canLayAll0, PyData.depthAll]
  | x :: t => by
    obtain ⟨h1, h2⟩ := lay_ints t
    simp only [List.map_cons, PyData.canLayAll0, PyData.depthAll, PyData.canLay0, PyData.depth, h1, h2]
    simp
theorem shaped_ints (ns : List Int) : SeqAt.shaped (.list (ns.map PyData.int)) = true := by
  obtain ⟨h1, h2⟩ := lay_ints ns
  unfold SeqAt.shaped
  simp only [PyData.canLay0, PyData.depth, h1, h2]
  simp
def eqNil (ns : List Int) : Bool := match ns with
  | [] => true
  | _ :: _ => false
theorem eqv_nil (ns : List Int) : PyData.eqv (.list (ns.map PyData.int)) (.list []) = eqNil ns := by
  cases ns with
  | nil => simp [PyData.eqv, PyData.eqvAll, eqNil]
  | cons x t => simp [PyData.eqv, PyData.eqvAll, eqNil]
def kEqS (ns : List Int) : K2 := fun x y h => match x, y with
  | .scr, .ref r => match h[r]? with
    | some (.lst []) => some (.bl (eqNil ns), h)
    | _ => none
  | _, _ => none
theorem p_eqS : P2 g (rEqD g.K) (kEqS g.ns) := by
  intro ρ H hp x y vx vy v h' Q R rx ry e q
  unfold kEqS at e
  split at e
  · rename_i r
    split at e
    · rename_i hx
      cases e
      simp only [Rv] at rx ry
      obtain ⟨rfl, hs⟩ := rx
      obtain ⟨a, ha, rfl⟩ := ry
      obtain ⟨vs, e2, rv⟩ := R.obj r a _ ha hx
      simp only [Rvs] at rv
      subst rv
      refine ⟨.list (g.ns.map PyData.int), .list [], .lst hs.sq (dp_ints _), .lst (.inl (.inl e2)) .nil, shaped_ints _, by rfl, ?_⟩
      rw [eqv_nil]
      exact q ρ H _ (.refl _ _) R mk_bl
    · cases e
  · cases e
def kFdivW : K2 := fun x y h => match x, y with
  | .int i, .int j => if decide (0 < j) && decide (j < 18446744073709551616) then some (.int (i / j), h) else none
  | _, _ => none
theorem o_fdivW : ∀ X : Cx, X.K = g.K → OpR X (binaryOp .FloorDiv) (rI CDivW fun i j => .int (i / j)) := fun X hK => op_fdivW
theorem p_fdivW : P2 g (rI CDivW fun i j => .int (i / j)) kFdivW := by
  intro ρ H hp x y vx vy v h' Q R rx ry e q
  unfold kFdivW at e
  split at e
  · rename_i i j
    by_cases hz : (decide (0 < j) && decide (j < 18446744073709551616)) = true
    · rw [if_pos hz] at e
      cases e
      rw [Bool.and_eq_true] at hz
      have h1 := of_decide_eq_true hz.1
      have h2 := of_decide_eq_true hz.2
      refine ⟨i, j, rv_int rx, rv_int ry, ⟨h1, ?_⟩, q ρ H _ (.refl _ _) R mk_int⟩
      have h3 : j.natAbs < 2 ^ 64 := by omega
      have := (Nat.log2_lt (by omega : j.natAbs ≠ 0)).mpr h3
      omega
    · rw [if_neg hz] at e; cases e
  · cases e
end
end Wr
set_option Elab.async false
set_option linter.all false
set_option maxRecDepth 100000
set_option maxHeartbeats 4000000
set_option autoImplicit false
namespace Wr
open PySem PySem.Spec PyProof.Rows L2
def maskS (live : List Nat) : Nat → Sg → Sg
  | _, [] => []
  | i, x :: t => (if live.contains i then x else none) :: maskS live (i + 1) t
def refsS : Sg → List Nat
  | [] => []
  | some v :: t => refsV v ++ refsS t
  | none :: t => refsS t
def renSl (f : Nat → Option Nat) : Sg → Option Sg
  | [] => some []
  | none :: t => match renSl f t with
    | some r => some (none :: r)
    | none => none
  | some v :: t => match ren f v with
    | some w => match renSl f t with
      | some r => some (some w :: r)
      | none => none
    | none => none
def cleanS (n0 : Nat) (live : List Nat) (s : Sg) (h : Hs) : Option (Sg × Hs) :=
  let s1 := maskS live 0 s
  let m := List.range n0 ++ (reach 300 h (refsS s1 ++ (h.take n0).flatMap refsO) []).filter (fun i => decide (n0 ≤ i))
  if nodupB m then match renSl (idx m) s1 with
    | some s2 => match selO m h m with
      | some h2 => some (s2, h2)
      | none => none
    | none => none
  else none
theorem mask_len (live : List Nat) : ∀ (s : Sg) (i : Nat), (maskS live i s).length = s.length
  | [], _ => rfl
  | _ :: t, i => by simp [maskS, mask_len live t (i + 1)]
theorem mask_get (live : List Nat) : ∀ (s : Sg) (i j : Nat) (x : Va), (maskS live i s)[j]? = some (some x) → s[j]? = some (some x)
  | [], _, _, _, h => by simp [maskS] at h
  | y :: t, i, 0, x, h => by
    simp only [maskS, List.getElem?_cons_zero, Option.some.injEq] at h ⊢
    split at h
    · exact h
    · cases h
  | y :: t, i, j + 1, x, h => by
    simp only [maskS, List.getElem?_cons_succ] at h ⊢
    exact mask_get live t (i + 1) j x h
theorem renSl_get {f : Nat → Option Nat} : ∀ {s s2 : Sg}, renSl f s = some s2 → s2.length = s.length ∧ ∀ (j : Nat) (w : Va), s2[j]? = some (some w) → ∃ v, s[j]? = some (some v) ∧ ren f v = some w
  | [], _, e => by cases e; exact ⟨rfl, fun j w h => by simp at h⟩
  | none :: t, _, e => by
    unfold renSl at e
    split at e
    · rename_i r hr
      cases e
      obtain ⟨h1, h2⟩ := renSl_get hr
      refine ⟨by simp [h1], fun j w h => ?_⟩
      cases j with
      | zero => simp at h
      | succ j => simpa using h2 j w (by simpa using h)
    · cases e
  | some v :: t, _, e => by
    unfold renSl at e
    split at e
    · rename_i v' hv
      split at e
      · rename_i r hr
        cases e
        obtain ⟨h1, h2⟩ := renSl_get hr
        refine ⟨by simp [h1], fun j w h => ?_⟩
        cases j with
        | zero => simp at h; subst h; exact ⟨v, by simp, hv⟩
        | succ j => simpa using h2 j w (by simpa using h)
      · cases e
    · cases e
theorem clean_ok {g : Gd} {ρ0 ρ1 : List Addr} {H0 H1 : Hp} {live : List Nat} {s s2 : Sg} {h h2 : Hs} {σ : L2.St} (S1 : Sp1 ρ0 H0 ρ1 H1) (R1 : Rh g ρ1 H1 h) (L1 : Rsl g ρ1 H1 s σ) (e : cleanS ρ0.length live s h = some (s2, h2)) :
    ∃ ρ2, Sp1 ρ0 H0 ρ2 H1 ∧ Rh g ρ2 H1 h2 ∧ Rsl g ρ2 H1 s2 σ := by
  unfold cleanS at e
  simp only at e
  generalize hl : (reach 300 h (refsS (maskS live 0 s) ++ (h.take ρ0.length).flatMap refsO) []).filter (fun i => decide (ρ0.length ≤ i)) = l at e
  generalize hm : List.range ρ0.length ++ l = m at e
  by_cases hn : nodupB m = true
  · rw [if_pos hn] at e
    split at e
    · rename_i s3 hs
      split at e
      · rename_i h3 hh
        cases e
        obtain ⟨R2, mv, sub, at_⟩ := sel_ok R1 (nodupB_ok hn) hh
        have hlen : ρ0.length ≤ ρ1.length := S1.pre.length_le
        refine ⟨pickA ρ1 m, ⟨?_, fun b hb => S1.new b (sub b hb), S1.keep, S1.frz⟩, R2, ?_⟩
        · have e : ρ1.take ρ0.length = ρ0 := by
            obtain ⟨c, hc⟩ := S1.pre
            rw [← hc]; simp
          have q := range_take (l := l) (n0 := ρ0.length) hm.symm ρ1 hlen
          rw [e] at q
          exact q
        · obtain ⟨h1, h2⟩ := renSl_get hs
          refine ⟨by rw [h1, mask_len]; exact L1.len, fun j w hj => ?_⟩
          obtain ⟨v, hv, rv⟩ := h2 j w hj
          obtain ⟨x, hx, rx⟩ := L1.at_ j v (mask_get live s 0 j v hv)
          exact ⟨x, hx, ren_ok mv _ _ _ rx rv⟩
      · cases e
    · cases e
  · rw [if_neg hn] at e; cases e
def forC (n0 : Nat) (live : List Nat) (it : It') (t : Tg) (body : Ds) : Nat → Nat → Ds
  | 0, _, _, _ => .no
  | f + 1, i, s0, h0 => match cleanS n0 live s0 h0 with
    | none => .no
    | some (s, h) => match nxt it i h with
      | none => .no
      | some none => .nx s h
      | some (some v) => match setT t v s h with
        | none => .no
        | some s1 => match body s1 h with
          | .nx s2 h2 => forC n0 live it t body f (i + 1) s2 h2
          | .ct s2 h2 => forC n0 live it t body f (i + 1) s2 h2
          | .bk s2 h2 => .nx s2 h2
          | .rt v h2 => .rt v h2
          | .ex c s2 h2 => .ex c s2 h2
          | .no => .no
def dForC (live : List Nat) (di : Di) (t : Tg) (body : Ds) : Ds := fun s h => (di s h).bindS s fun it h1 => forC h1.length live it t body (itLen it h1 + 1) 0 s h1
section
variable {g : Gd} {X : Cx} {W : WX} {n : Nat} {pos : Pos} {tg iter : Expr}
theorem s_forC (live : List Nat) {b : Bool} {body : List Stmt} {di : Di} {t : Tg} {f : Ds} (hi : SI g X W (n + 1) b tg iter di) (hg : SG g X b tg t) (hb : SB g X W (n + 1) body f) (hs : ∀ x, foldedSetIterable iter X.env x = pure x := by intro _; rfl) :
    SS g X W (n + 1) (.For tg iter body [] pos) (dForC live di t f) := by
  intro C
  refine (ps_for C.pass C.calm (hi C) (hg C.K C.calm C.nd) (hb C) hs).imp ?_
  rintro D σ H ⟨ρ, s, hp, R, L, h⟩
  refine ⟨ρ, s, hp, R, L, ?_⟩
  unfold dForC at h
  cases q : di s hp with
  | no => rw [q] at h; exact h
  | ex c h1 => rw [q] at h; exact fun ρ1 H1 S1 R1 => h ρ1 H1 σ S1 R1 (L.step R S1)
  | ok it h1 =>
    rw [q] at h
    intro ρ0 H0 J S0 R0 hJ
    have h' := PoS.at h S0
    simp only [Rs.bindS] at h'
    rw [← R0.len] at h'
    refine ⟨fun i m σ1 H1 => ∃ ρ1 s1 h2, Sp1 ρ0 H0 ρ1 H1 ∧ Rh g ρ1 H1 h2 ∧ Rsl g ρ1 H1 s1 σ1 ∧ PoS g ρ0 H0 (forC ρ0.length live it t f m i s1 h2) D W, ⟨itLen it h1 + 1, ρ0, s, h1, .refl _ _, R0, L.step R S0, h'⟩, ?_⟩
    rintro i m σ1 H1 ⟨ρ1, s1, h2, S1, R1, L1, p1⟩
    cases m with
    | zero => exact p1.elim
    | succ m =>
      unfold forC at p1
      cases hc : cleanS ρ0.length live s1 h2 with
      | none => rw [hc] at p1; exact p1.elim
      | some w =>
        obtain ⟨s1', h2'⟩ := w
        rw [hc] at p1
        simp only at p1
        obtain ⟨ρ2, S1', R1', L1'⟩ := clean_ok S1 R1 L1 hc
        clear S1 R1 L1 hc
        split at p1
        · exact p1.elim
        · rename_i hq
          exact .inl ⟨hJ i ρ2 H1 h2' none S1' R1' hq, p1 ρ2 H1 σ1 S1' R1' L1'⟩
        · rename_i v hq
          obtain ⟨hgo, hy⟩ := hJ i ρ2 H1 h2' (some v) S1' R1' hq
          refine .inr ⟨hgo, fun σ' H' => ∃ ρ1 s1 h2, Sp1 ρ0 H0 ρ1 H' ∧ Rh g ρ1 H' h2 ∧ Rsl g ρ1 H' s1 σ' ∧ PoS g ρ0 H0 (forC ρ0.length live it t f m (i + 1) s1 h2) D W, fun σ' H' w => ⟨m, Nat.lt_succ_self m, w⟩, fun x H2 hyl => ?_⟩
          obtain ⟨S2, R2, ry⟩ := hy x H2 hyl
          split at p1
          · exact p1.elim
          · rename_i s2 hset
            refine ⟨ρ2, s1', h2', v, s2, R2, L1'.step R1' S2, ry, hset, fun σ' L' _ => ⟨ρ2, s2, h2', R2, L', ?_⟩⟩
            have SS := S1'.trans S2
            cases qb : f s2 h2' with
            | nx s3 h3 => rw [qb] at p1; exact fun ρ3 H3 σ3 S3 R3 L3 => ⟨ρ3, s3, h3, SS.trans S3, R3, L3, p1⟩
            | ct s3 h3 => rw [qb] at p1; exact fun ρ3 H3 σ3 S3 R3 L3 => ⟨ρ3, s3, h3, SS.trans S3, R3, L3, p1⟩
            | bk s3 h3 => rw [qb] at p1; exact fun ρ3 H3 σ3 S3 R3 L3 => p1 ρ3 H3 σ3 (SS.trans S3) R3 L3
            | rt v h3 => rw [qb] at p1; exact fun ρ3 H3 x3 S3 R3 L3 => p1 ρ3 H3 x3 (SS.trans S3) R3 L3
            | ex c s3 h3 => rw [qb] at p1; exact fun ρ3 H3 x3 S3 R3 L3 => p1 ρ3 H3 x3 (SS.trans S3) R3 L3
            | no => rw [qb] at p1; exact p1
end
section
variable {P : Program} {w : World} {g : Gd} {mg : Str → Option Value} {base : Heap}
def fdO (K : PySem.W.Frag) (a : Addr) : Option FuncData := match K.lookup a with
  | some ⟨_, _, .func fd, _⟩ => some fd
  | _ => none
theorem fdO_of {K : PySem.W.Frag} {x qual : Str} {params : Arguments} {body : List Stmt} {scope : Scope} {dvs : List V} {kws : List (Str × V)} {f : Addr} {fd : FuncData} (F : FunD K x qual params body scope dvs kws f fd) : fdO K f = some fd := by
  obtain ⟨oc, od, dV, kV, doc, pm, an, cdv, ct, osl, rfl, lk, _⟩ := F.ex
  unfold fdO
  rw [lk]
def Okf (P : Program) (w : World) (g : Gd) (mg : Str → Option Value) (base : Heap) (k : Nat) (x : Str) (ps : List Str) (np : Nat) (F : Fn) : Prop :=
  mg x = some (.ref (He.ga g.K x)) ∧ PySem.W.keepIn g.K (.ref (He.ga g.K x)) = true ∧ ∃ fd, fdO g.K (He.ga g.K x) = some fd ∧ FnOk P w g.K mg base (L2.CX P w) k (He.ga g.K x) fd ps (spD g np F) ∧ Binds g.K fd ps []
theorem Okf.mono {j k : Nat} {x : Str} {ps : List Str} {np : Nat} {F : Fn} (h : Okf P w g mg base j x ps np F) (hj : j ≤ k) : Okf P w g mg base k x ps np F := by
  obtain ⟨h1, h2, fd, h0, h3, h4⟩ := h
  exact ⟨h1, h2, fd, h0, h3.mono hj, h4⟩
def noF : Fn := fun _ _ => .no
abbrev FnP (K : PySem.W.Frag) (x : Str) (st : Stmt) : Prop := ∃ fd, FunD K x x (defArgs st) (defBody st) (defScope st) [] [] (He.ga K x) fd
abbrev BindsAll (x : Str) (st : Stmt) (ps : List Str) : Prop := ∀ (kV doc pm : Value) (an : Option Addr) (cdv ct : Value) (us : List Value), us.length = ps.length → bindArgs (PySem.W.fnOf x x (defArgs st) (defBody st) (defScope st) .none kV doc pm an cdv ct) ⟨us, []⟩ = pure (ps.zip us)
theorem Okf.no {x : Str} {st : Stmt} {ps : List Str} {np k : Nat} (F : FnP g.K x st) (hm : mg x = some (.ref (He.ga g.K x))) (hb : BindsAll x st ps) (hp : ps.length = np) : Okf P w g mg base k x ps np noF := by
  obtain ⟨fd, F⟩ := F
  refine ⟨hm, F.kp, fd, fdO_of F, ⟨fun vs H Q E h => by rw [hp]; exact h.1, fun A outer s H args us vs Q E _ _ _ _ h => ?_⟩, F.bindsN hb⟩
  obtain ⟨_, ρ, hh, xs, R, r, q⟩ := h
  exact q.elim
theorem mk_fn {x : Str} {st : Stmt} {N ps : List Str} {k nN np : Nat} {b : Ds} (F : FnP g.K x st) (hm : mg x = some (.ref (He.ga g.K x))) (hb : BindsAll x st ps) (S : FnScope N ps (defScope st)) (hN : N.length = nN) (hp : ps.length = np)
    (body : ∀ (f : Addr) (cdv : Value) (A : Around) (outer : List Env) (s : Shared) (H : Hp) (E : XK), SB g (cxOf (L2.CX P w) P w g.K mg base N x (defScope st) f cdv A outer s H E) (fun c d _ H' => E c d H') (k + 1) (defBody st) b) :
    Okf P w g mg base (k + 1) x ps np (fnD nN b) := by
  obtain ⟨fd, F⟩ := F
  refine ⟨hm, F.kp, fd, fdO_of F, ?_, F.bindsN hb⟩
  refine F.ok S (fun vs H Q E h => by rw [hp]; exact h.1) fun cdv A outer s H vs Q E hr h => ?_
  obtain ⟨hl, ρ, hh, xs, R, r, q⟩ := h
  have tk : Takes (cxOf (L2.CX P w) P w g.K mg base N x (defScope st) (He.ga g.K x) cdv A outer s H E) (fun c d _ H' => E c d H') := takes_of rfl rfl rfl rfl
  refine ⟨_, body (He.ga g.K x) cdv A outer s H E (Cz.mk1 rfl tk rfl S.nd hr (passes_of rfl)), ρ, xs.map some ++ List.replicate (nN - xs.length) none, hh, R, ?_, ?_⟩
  · have hx := r.length
    refine ⟨by simp [L2.start, hN, hx], fun i x e => ?_⟩
    by_cases hi : i < xs.length
    · rw [List.getElem?_append_left (by simpa using hi), List.getElem?_map] at e
      obtain ⟨y, ey, e2⟩ := Option.map_eq_some_iff.mp e
      cases e2
      obtain ⟨v, ev, rv⟩ := r.get ey
      refine ⟨v, ?_, rv⟩
      unfold L2.start
      rw [List.getElem?_append_left (by simp; omega), List.getElem?_map, ev]
      rfl
    · rw [List.getElem?_append_right (by simp; omega), List.getElem?_replicate] at e
      split at e <;> cases e
  · unfold fnD at q
    rw [← R.len] at q
    have q2 := compact_ok q
    cases qb : b (xs.map some ++ List.replicate (nN - xs.length) none) hh with
    | nx s1 h1 => rw [qb] at q2; exact fun ρ1 H1 σ1 S1 R1 L1 => q2 ρ1 H1 .non S1 R1 (by simp only [Rv])
    | rt v h1 => rw [qb] at q2; exact q2
    | ex c s1 h1 => rw [qb] at q2; exact fun ρ1 H1 σ1 S1 R1 L1 => q2 ρ1 H1 S1 R1
    | bk s1 h1 => rw [qb] at q2; exact q2.elim
    | ct s1 h1 => rw [qb] at q2; exact q2.elim
    | no => rw [qb] at q2; exact q2.elim
end
section
variable {g : Gd} {X : Cx} {W : WX} {n : Nat}
/-- f(..) of a def that keeps its promise -/
theorem e_callF {np : Nat} {F : Fn} {ps : List Str} {x : Str} {p pos : Pos} {e : Expr} {es : List Expr} {a : Da} (O : Okf X.prog X.w g X.mg X.base n x ps np F) (hK : X.K = g.K) (ha : SA g X W (n + 1) (e :: es) a)
    (hg : Gl X x := by rfl) (hdb : (x == ("__debug__" : Str)) = false := by decide) (he : starEach (e :: es) X.env = (false, eval e X.env) :: starEach es X.env := by rfl) (hpl : (backTo pos (starEach es X.env)).any (·.1) = false := by rfl) :
    SE g X W (n + 1) (.Call (.Name x p) (e :: es) [] pos) (dCall F np a) := by
  obtain ⟨h1, h2, fd, _, h3, h4⟩ := O
  rw [← hK] at h1 h2 h3 h4
  exact e_call h3 h4 h1 h2 (Nat.le_refl _) ha hg hdb he hpl
end
def vaB (K : PySem.W.Frag) : Nat → Va → Value → Bool
  | _, .non, .none => true
  | _, .bl b, .bool c => b == c
  | _, .int i, .int j _ => decide (i = j)
  | _, .str x, .str y _ => decide (x = y)
  | n + 1, .tup xs, .ref a => match K.lookup a with
    | some o => decide (o.cls = .type "tuple") && (decide (o.dict = none) && (match o.data with
      | .seq its _ => decide (its.size ≤ 1000) && (decide (its.size = xs.length) && (xs.zip its.toList).all fun p => vaB K n p.1 p.2)
      | _ => false))
    | none => false
  | _, _, _ => false
/-- what stands in the written part is what it is at every heap -/
theorem vaB_ok {g : Gd} : ∀ (n : Nat) (v : Va) (u : Value), vaB g.K n v u = true → ∃ y, RelV y u ∧ Steady g v y
  | n, .non, u, h => by
    cases u <;> (cases n <;> simp only [vaB] at h <;> first | exact absurd h Bool.false_ne_true | exact ⟨.non, rfl, fun _ _ => mk_non⟩)
  | n, .bl b, u, h => by
    cases u with
    | bool c =>
      have : b = c := by cases n <;> simpa only [vaB, beq_iff_eq] using h
      subst this
      exact ⟨.bl b, rfl, fun _ _ => mk_bl⟩
    | _ => cases n <;> simp only [vaB] at h <;> exact absurd h Bool.false_ne_true
  | n, .int i, u, h => by
    cases u with
    | int j t =>
      have : i = j := by cases n <;> simpa only [vaB, decide_eq_true_eq] using h
      subst this
      exact ⟨.int i, ⟨t, rfl⟩, fun _ _ => mk_int⟩
    | _ => cases n <;> simp only [vaB] at h <;> exact absurd h Bool.false_ne_true
  | n, .str x, u, h => by
    cases u with
    | str y t =>
      have : x = y := by cases n <;> simpa only [vaB, decide_eq_true_eq] using h
      subst this
      exact ⟨.str x, ⟨t, rfl⟩, fun _ _ => mk_str⟩
    | _ => cases n <;> simp only [vaB] at h <;> exact absurd h Bool.false_ne_true
  | 0, .tup xs, u, h => by cases u <;> simp only [vaB] at h <;> exact absurd h Bool.false_ne_true
  | n + 1, .tup xs, u, h => by
    cases u with
    | ref a =>
      simp only [vaB] at h
      cases hl : g.K.lookup a with
      | none => rw [hl] at h; exact absurd h Bool.false_ne_true
      | some o =>
        rw [hl] at h
        simp only [Bool.and_eq_true, decide_eq_true_eq] at h
        obtain ⟨hc, hd, h⟩ := h
        cases ho : o.data with
        | seq its c =>
          rw [ho] at h
          simp only [Bool.and_eq_true, decide_eq_true_eq] at h
          obtain ⟨h1, h2, h3⟩ := h
          have key : ∀ (xs : List Va) (us : List Value), us.length = xs.length → ((xs.zip us).all fun p => vaB g.K n p.1 p.2) = true → ∃ ys, Vals ys us ∧ ∀ ρ H, Rvs g ρ H xs ys := by
            intro xs
            induction xs with
            | nil => intro us e _; cases us with
              | nil => exact ⟨[], .nil, fun _ _ => Rvs.nil⟩
              | cons _ _ => simp at e
            | cons x t ih =>
              intro us e h
              cases us with
              | nil => simp at e
              | cons u ut =>
                simp only [List.zip_cons_cons, List.all_cons, Bool.and_eq_true] at h
                obtain ⟨y, ry, sy⟩ := vaB_ok n x u h.1
                obtain ⟨ys, rs, ss⟩ := ih ut (by simpa using e) h.2
                exact ⟨y :: ys, .cons ry rs, fun ρ H => Rvs.cons (sy ρ H) (ss ρ H)⟩
          obtain ⟨ys, rs, ss⟩ := key xs its.toList (by simpa using h2) h3
          refine ⟨.ref a, rfl, fun ρ H => ?_⟩
          simp only [Rv]
          exact ⟨a, ys, rfl, .inr ⟨o, its, c, hl, hc, hd, ho, by rw [sizeLine_eq]; omega, rs⟩, ss ρ H⟩
        | _ => rw [ho] at h; exact absurd h Bool.false_ne_true
    | _ => simp only [vaB] at h; exact absurd h Bool.false_ne_true
  | n, .ty _, u, h => by cases u <;> (cases n <;> simp only [vaB] at h <;> exact absurd h Bool.false_ne_true)
  | n, .gl _, u, h => by cases u <;> (cases n <;> simp only [vaB] at h <;> exact absurd h Bool.false_ne_true)
  | n, .scr, u, h => by cases u <;> (cases n <;> simp only [vaB] at h <;> exact absurd h Bool.false_ne_true)
  | n, .exc _, u, h => by cases u <;> (cases n <;> simp only [vaB] at h <;> exact absurd h Bool.false_ne_true)
  | n, .ref _, u, h => by cases u <;> (cases n <;> simp only [vaB] at h <;> exact absurd h Bool.false_ne_true)
def conB (K : PySem.W.Frag) (x : Str) (v : Va) : Bool := match PySem.W.nsIn K mainGlobals x with
  | some (some u) => vaB K 9 v u
  | _ => false
def Con1 (g : Gd) (mg : Str → Option Value) (x : Str) (v : Va) : Prop := ∃ u y, mg x = some u ∧ RelV y u ∧ Steady g v y
theorem conB_ok {g : Gd} {h : Heap} {mg : Str → Option Value} (X : g.K.In h) (G : h.Ns mainGlobals mg) {x : Str} {v : Va} (c : conB g.K x v = true) : Con1 g mg x v := by
  unfold conB at c
  split at c
  · rename_i u hu
    obtain ⟨y, r, s⟩ := vaB_ok 9 v u c
    exact ⟨u, y, PySem.W.mg_of X G hu, r, s⟩
  · cases c
theorem e_con {g : Gd} {X : Cx} {W : WX} {n : Nat} {x : Str} {v : Va} {pos : Pos} (c : Con1 g X.mg x v) (hg : Gl X x := by rfl) (hd : (x == ("__debug__" : Str)) = false := by decide) : SE g X W n (.Name x pos) (dC v) := by
  obtain ⟨u, y, h1, h2, h3⟩ := c
  exact e_glob h1 h2 h3 hg hd
end Wr
set_option Elab.async false
set_option linter.all false
set_option maxRecDepth 100000
set_option maxHeartbeats 4000000
set_option autoImplicit false
namespace Wr
open PySem PySem.Spec PyProof.Rows L2
/-- a law's end: what it may let out may hang on the world -/
theorem walk_w {l : PySem.W.OpenLaw} {n k : Nat} {q : Program} {loose : List Str} {XP : (Str → Option Value) → Heap → Prop} {YP : World → Heap → Prop} {d : DefRec} {CX : World → CXT} {x : Str}
    (hn : l.most = some n) (hn2 : n ≤ sizeLine) (hdf : d.params.defaults = []) (hr : Room k callerA)
    (F : ∀ (w : World) (mg : Str → Option Value) (fa : Addr) (h : Heap), YP w h → h.Ns mainGlobals mg → mg d.name = some (.ref fa) →
      ∃ (K : PySem.W.Frag) (fd : FuncData) (sp : Sp), K.In h ∧ (∀ (s : Shared) (u : Value), BindsTo s fd ⟨[u], []⟩ [(x, u)]) ∧
        (∀ (H : Hp) (a : Addr) (ns : List Int), ns.length ≤ n → Only H → SqL K H a (ns.map V.int) → sp [.ref a] H (fun v _ => v = .bl true) fun _ _ _ => False) ∧
        ∀ base : Heap, K.In base → base.Ns mainGlobals mg → FnOk l.prog w K mg base (CX w) k fa fd [x] sp)
    (hCX : ∀ (w : World) (H : Hp) (s : Shared) (e : Value) (s' : Shared), CX w [] H s (fun _ _ _ => False) e s' → False) :
    PySem.W.WalkO q loose XP YP l.row.toRowW d [] (fun f vs => PySem.call f vs) := by
  refine Att.attach_call hn hdf fun w s₀ s₁ mg mb fa o pm cd doc a vs ns G Y ho hd hcd hmg hobj hints hlen hg => ?_
  obtain ⟨K, fd, sp, KX, hb, hsp, hF⟩ := F w mg fa _ Y G.T.g hmg
  exact law_call KX G.T.g G.T.b G.T.builtins G.T.nolimit hg hobj hints (Nat.le_trans hlen hn2) hr hF hb (fun H hO hS => hsp H a ns hlen hO hS) fun H e s' => hCX w H s₁ e s'
theorem cx_false (P : Program) (w : World) (H : Hp) (s : Shared) (e : Value) (s' : Shared) (z : L2.CX P w [] H s (fun _ _ _ => False) e s') : False := by
  obtain ⟨a, B, H', cls, d, _, _, _, _, _, _, _, h⟩ := z
  exact h
def gd (K : PySem.W.Frag) (G : Nat → Addr) (sa : Addr) (ns : List Int) : Gd := ⟨K, G, sa, ns, [], none⟩
/-- the promise of a law: at each script -/
def spLaw (K : PySem.W.Frag) (G : Nat → Addr) (n : Nat) (F : List Int → Fn) : Sp := fun vs H Q E => ∃ sa ns, ns.length ≤ n ∧ spD (gd K G sa ns) 1 (F ns) vs H Q E
theorem law_ok {P : Program} {w : World} {K : PySem.W.Frag} {mg : Str → Option Value} {base : Heap} {G : Nat → Addr} {n k : Nat} {F : List Int → Fn} {fd : FuncData} (hfd : fdO K (He.ga K "law") = some fd)
    (h : ∀ sa ns, Okf P w (gd K G sa ns) mg base k "law" ["script"] 1 (F ns)) : FnOk P w K mg base (L2.CX P w) k (He.ga K "law") fd ["script"] (spLaw K G n F) := by
  refine ⟨fun vs H Q E z => ?_, fun A outer s H args us vs Q E hr he hb hv z => ?_⟩
  · obtain ⟨sa, ns, _, z⟩ := z
    exact z.1
  · obtain ⟨sa, ns, _, z⟩ := z
    obtain ⟨_, _, fd', h0, h1, _⟩ := h sa ns
    have : fdO K (He.ga K "law") = some fd' := h0
    rw [hfd] at this
    cases this
    exact h1.run A outer s H args us vs Q E hr he hb hv z
theorem law_sp {K : PySem.W.Frag} {G : Nat → Addr} {n : Nat} {F : List Int → Fn} (ok : ∀ ns : List Int, ns.length ≤ n → ∃ h, F ns [.scr] [] = .ok (.bl true) h) (H : Hp) (a : Addr) (ns : List Int) (hl : ns.length ≤ n) (hO : Only H)
    (hS : SqL K H a (ns.map V.int)) : spLaw K G n F [.ref a] H (fun v _ => v = .bl true) fun _ _ _ => False := by
  obtain ⟨h, e⟩ := ok ns hl
  refine ⟨a, ns, hl, rfl, [], [], [.scr], ⟨rfl, List.nodup_nil, (fun p hp => nomatch hp), fun i a o h1 h2 => by simp at h1⟩, ?_, ?_⟩
  · refine Rvs.one ?_
    simp only [Rv]
    refine ⟨rfl, ?_⟩
    rcases hS with (h1 | ⟨o, h1⟩) | h1
    · rcases hO a with z | ⟨o, xs, z⟩
      · rw [z] at h1; cases h1
      · rw [z] at h1; cases h1
    · exact .inl ⟨o, h1⟩
    · exact .inr h1
  · rw [e]
    intro ρ' H' x S R r
    exact rv_bl r
end Wr
set_option Elab.async false
set_option linter.all false
set_option maxRecDepth 100000
set_option maxHeartbeats 4000000
set_option autoImplicit false
namespace Wr
open PySem PySem.Spec PyProof.Rows L2
def isT (r : Rs Va) : Bool := match r with
  | .ok (.bl true) _ => true
  | _ => false
theorem mix_nil (os : Hs) : ∀ (hp : Hs) (j : Nat), mix [] os j hp = hp
  | [], _ => rfl
  | o :: t, j => by simp [mix, mix_nil os t (j + 1), idx]
theorem callD_flat {F : Fn} {args : List Va} {v : Va} {hp : Hs} (h1 : refsVs args = []) (h2 : rens (idx []) args = some args) (h3 : ren (bkI [] hp.length) v = some v) (h : F args [] = .ok v []) : callD F args hp = .ok v hp := by
  unfold callD
  rw [h1]
  have e : reach 300 hp [] [] = [] := rfl
  simp only [e]
  have e2 : nodupB [] = true := rfl
  rw [if_pos e2, h2]
  have e3 : selO [] hp [] = some [] := rfl
  simp only [e3]
  rw [h]
  simp only [back, h3]
  have e4 : backH [] hp [] = some hp := by
    unfold backH
    have e5 : renOs (bkI [] hp.length) [] = some [] := rfl
    rw [e5]
    simp [mix_nil]
  rw [e4]
end Wr
set_option Elab.async false
set_option linter.all false
set_option maxRecDepth 100000
set_option maxHeartbeats 4000000
set_option autoImplicit false
namespace Wr
open PySem PySem.Spec PyProof.Rows L2
def dDrop (live : List Nat) (k : Ds) : Ds := fun s h => k (maskS live 0 s) h
end Wr
set_option Elab.async false
set_option linter.all false
set_option maxRecDepth 100000
set_option maxHeartbeats 4000000
set_option autoImplicit false
namespace Wr
open PySem PySem.Spec PyProof.Rows L2
section
variable {g : Gd} {X : Cx} {W : WX} {n : Nat} {pos tpos : Pos} {e : Expr} {elts : List Expr} {kk : Nat}
def dEnum (f : Da) : Di := fun s h => (f s h).bind fun vs h1 => match vs with
  | [x] => if noStr x then (itOf x h1).bind fun a h2 => .ok (.enum a) h2 else .no
  | _ => .no
def dCall0 (F : Fn) : De := fun _ h => callD F [] h
theorem e_callF0 {F : Fn} {x : Str} {p : Pos} (O : Okf X.prog X.w g X.mg X.base n x [] 0 F) (hK : X.K = g.K) (hg : Gl X x := by rfl) (hdb : (x == ("__debug__" : Str)) = false := by decide) :
    SE g X W (n + 1) (.Call (.Name x p) [] [] pos) (dCall0 F) := by
  obtain ⟨h1, h2, fd, _, h3, h4⟩ := O
  rw [← hK] at h1 h2 h3 h4
  intro C
  refine ⟨fun pins s σ H Q I h => ?_⟩
  obtain ⟨ρ, s', hp, R, L, h⟩ := h
  refine wpAny_Call_Name_kw (ld_glob I hg h1 ?_ hdb)
  exact PySem.W.callWith_K0 I.kIn h2 (run_fnS (E := WE W) (us := []) h3 C.room h4 (passAt C.tk σ) I .nil (sp_call R Rvs.nil rfl h))
end
end Wr
set_option Elab.async false
set_option linter.all false
set_option maxRecDepth 100000
set_option maxHeartbeats 4000000
set_option autoImplicit false
namespace Wr
open PySem PySem.Spec PyProof.Rows L2
section
variable {prog : Program} {w : World} {A : Around} {E : Value → Shared → Prop} {s : Shared} {l : Addr} {its : List Value} {ns : List Int} {Q : Value → Shared → Prop}
theorem sum_tup (hh : A.handled = none) (hl : s.heap.IsTuple l its.toArray) (hi : IntsAre its ns)
    (h : ∀ h' tk t', (∀ b o, s.heap.get? b = some o → h'.get? b = some o) → Q (.int ns.sum t') { s with heap := h', toks := tk }) : wpAny (model prog w) A (call (.builtin "sum") [.ref l]) Q E s := by
  obtain ⟨xs, e⟩ := hi.allInts.items
  have hn : numsOf (intItems xs).toList = ns := by rw [← e]; exact hi.numsOf
  rw [nums_intItems] at hn
  rw [e] at hl
  refine PySem.W.ktm_sumG hh hl fun h' tk t' hk => ?_
  have := h h' tk t' hk
  rw [preSum_eq, List.take_of_length_le (by simp), hn]; exact this
end
def rSumT (K : PySem.W.Frag) : List V → Hp → VK → Prop := fun vs H Q => ∃ (a : Addr) (ns : List Int), vs = [V.ref a] ∧ SqT K H a (ns.map V.int) ∧ Q (.int ns.sum) H
theorem cr_sumT {X : Cx} (hc : X.calm = true) : CallR X (.builtin "sum") (rSumT X.K) := by
  intro pins s σ H vs us Q I r h
  obtain ⟨a, ns, rfl, hs, q⟩ := h
  obtain ⟨its, rv, hl, _⟩ := I.tuple hs
  rw [Vals.ref1 r]
  exact sum_tup (I.ok.hd hc) hl rv.ints fun h' tk t' hk => ⟨.int _, H, I.kept hk, ⟨_, rfl⟩, q⟩
section
variable {g : Gd}
def kSumA : K1 := fun xs h => match xs with
  | [.tup ys] => (intsV ys).map fun ns => (.int ns.sum, h)
  | _ => kSum xs h
theorem c_sumA : CallC g (.builtin "sum") (fun xs H Q => rSum g.K xs H Q ∨ rSumT g.K xs H Q) := fun X hK hc _ => hK ▸ CallR.or (cr_sum hc) (cr_sumT hc)
theorem p_sumA : PC1 g (fun xs H Q => rSum g.K xs H Q ∨ rSumT g.K xs H Q) kSumA := by
  intro ρ H hp xs vs v h' Q R r e q
  unfold kSumA at e
  split at e
  · obtain ⟨ns, h2, e⟩ := Option.map_eq_some_iff.mp e
    cases e
    obtain ⟨w, rfl, rw'⟩ := r.inv1
    simp only [Rv] at rw'
    obtain ⟨a, us, rfl, ht, rv⟩ := rw'
    have := intsV_rv rv h2
    subst this
    exact .inr ⟨a, ns, rfl, ht.sqT, q ρ H _ (.refl _ _) R mk_int⟩
  · exact .inl (p_sum ρ H hp xs vs v h' Q R r e q)
end
end Wr
set_option Elab.async false
set_option linter.all false
set_option maxRecDepth 100000
set_option maxHeartbeats 4000000
set_option autoImplicit false
namespace Wr
open PySem PySem.Spec PyProof.Rows L2
end Wr
set_option Elab.async false
set_option linter.all false
set_option maxRecDepth 100000
set_option maxHeartbeats 4000000
set_option autoImplicit false
namespace Wr
open PySem PySem.Spec PyProof.Rows L2
section
variable {X : Cx} {pins : List (Addr × Obj)} {σ : L2.St} {H : Hp} {s : Shared}
theorem SqN.key (I : Inv X pins σ H s) {b : Addr} {ks : List Key} (h : SqN X.K H b (ks.map kV)) : (tupleKind (mixKind X.prog X.w)).is s.heap ks b := by
  obtain ⟨its, r, ⟨o, h1, h2, n, h3⟩, _⟩ := I.tuple h.sqT
  exact ⟨o, its.toArray, n, h1, h2, h3, by simpa using items_are r⟩
theorem ent_any (P P' : Program) (w w' : World) (is : List Int) (p : Addr × Value) : entryOfKey (tupleKind (mixKind P w)) (is.map Sum.inl, p) = entryOfKey (tupleKind (mixKind P' w')) (is.map Sum.inl, p) := by
  have e : ∀ (P : Program) (w : World), (is.map (Sum.inl : Int → Key)).map (mixKind P w).hash = is.map hashInt := fun P w => by
    rw [List.map_map]; rfl
  have e2 : tupleKeyHash (mixKind P w) (is.map Sum.inl) = tupleKeyHash (mixKind P' w') (is.map Sum.inl) := by
    unfold tupleKeyHash
    rw [e, e]
  show (⟨tupleKeyHash (mixKind P w) (is.map Sum.inl), .ref p.1, p.2⟩ : DictEntry) = ⟨tupleKeyHash (mixKind P' w') (is.map Sum.inl), .ref p.1, p.2⟩
  rw [e2]
theorem ents_any {P P' : Program} {w w' : World} {xs : List (List Key × Addr × Value)} (h : ∀ q ∈ xs, ∃ is : List Int, q.1 = is.map Sum.inl) : xs.map (entryOfKey (tupleKind (mixKind P w))) = xs.map (entryOfKey (tupleKind (mixKind P' w'))) := by
  refine List.map_congr_left fun q hq => ?_
  obtain ⟨k, p⟩ := q
  obtain ⟨is, e⟩ := h _ hq
  simp only at e
  subst e
  exact ent_any P P' w w' is p
theorem KTn.val {K : PySem.W.Frag} {kvs : List (List Key × V)} {xs : List (List Key × Addr × Value)} (r : KTn K H kvs xs) (k : List Key) : RelO (valV kvs k) ((atKey xs k).map (·.2)) := by
  induction r with
  | nil => exact True.intro
  | @cons p q ps qs h t ih =>
    obtain ⟨h1, _, h2⟩ := h
    by_cases e : p.1 = k
    · have b : atKey (q :: qs) k = some q.2 := by simp [atKey, List.find?_cons, h1.symm.trans e]
      rw [valV_pos e, b]; exact h2
    · have b : atKey (q :: qs) k = atKey qs k := by simp [atKey, List.find?_cons, show ¬ q.1 = k from fun z => e (h1.trans z)]
      rw [valV_neg e, b]; exact ih
theorem KTn.repl {K : PySem.W.Frag} {kvs : List (List Key × V)} {xs : List (List Key × Addr × Value)} (r : KTn K H kvs xs) (k : List Key) {y : V} {u : Value} (ry : RelV y u) :
    KTn K H (kvs.map fun kv => if kv.1 = k then (kv.1, y) else kv) (xs.map (putAt k u)) := by
  induction r with
  | nil => exact .nil
  | @cons p q ps qs h t ih =>
    rw [List.map_cons, List.map_cons]
    refine .cons ?_ ih
    obtain ⟨h1, h2, h3⟩ := h
    unfold putAt
    by_cases e : p.1 = k
    · rw [if_pos e, if_pos (h1.symm.trans e)]; exact ⟨h1, h2, ry⟩
    · rw [if_neg e, if_neg (fun z => e (h1.trans z))]; exact ⟨h1, h2, h3⟩
theorem KTn.put {K : PySem.W.Frag} {kvs : List (List Key × V)} {xs : List (List Key × Addr × Value)} (r : KTn K H kvs xs) (k : List Key) {b : Addr} {y : V} {u : Value} (hb : SqN K H b (k.map kV)) (ry : RelV y u) :
    KTn K H (putK kvs k y) (storedH xs k b u) := by
  have e : (kvs.any fun kv => decide (kv.1 = k)) = (atKey xs k).isSome := by
    rw [valV_any, (KTn.val r k).isSome_eq, Option.isSome_map]
  unfold putK storedH
  rw [e]
  by_cases q : (atKey xs k).isSome = true
  · rw [if_pos q, if_pos q]; exact KTn.repl r k ry
  · rw [if_neg q, if_neg q]; exact Paired.snoc r ⟨rfl, hb, ry⟩
theorem stored_ints {xs : List (List Key × Addr × Value)} (h : ∀ q ∈ xs, ∃ is : List Int, q.1 = is.map Sum.inl) (is : List Int) (b : Addr) (u : Value) : ∀ q ∈ storedH xs (is.map Sum.inl) b u, ∃ js : List Int, q.1 = js.map Sum.inl := by
  intro q hq
  unfold storedH at hq
  split at hq
  · obtain ⟨p, hp, rfl⟩ := List.mem_map.mp hq
    unfold putAt
    split
    · exact h p hp
    · exact h p hp
  · rcases List.mem_append.mp hq with hq | hq
    · exact h q hq
    · rw [List.mem_singleton.mp hq]; exact ⟨is, rfl⟩
theorem DtX.dict (I : Inv X pins σ H s) {a : Addr} {xs : List (List Key × Addr × Value)} {ws : List (List Key × V)} (h1 : H a = some (DTo a xs)) (h2 : KTn X.K H ws xs) (h3 : (xs.map (·.1)).Nodup) : s.heap.DictOfH (tupleKind (mixKind X.prog X.w)) a xs := by
  obtain ⟨⟨o, es, ep, e1, e2, e3, e4⟩, _⟩ := (show ObjOk X.prog X.w H s.heap a (DTo a xs) from I.hok a _ h1)
  refine ⟨o, es, ep, e1, e2, e3, e4 _ _, ?_, h3⟩
  have all : ∀ {l : List (List Key × V)} {m : List (List Key × Addr × Value)}, KTn X.K H l m → ∀ x ∈ m, (tupleKind (mixKind X.prog X.w)).is s.heap x.1 x.2.1 := by
    intro l m q
    induction q with
    | nil => intro x hx; exact nomatch hx
    | @cons p q ps qs hq t ih =>
      intro x hx
      rcases List.mem_cons.mp hx with e | hx
      · subst e
        exact SqN.key I (by rw [← hq.1]; exact hq.2.1)
      · exact ih x hx
  exact all h2
def rDgX (K : PySem.W.Frag) : R2 := fun x y H Q => ∃ a ws k b v, x = .ref a ∧ DtX K H a ws ∧ y = .ref b ∧ SqN K H b (k.map kV) ∧ valV ws k = some v ∧ Q v H
theorem pe_dgetX {o i : Expr} {td ty : TE} {pos : Pos} (hu : X.A.units + 1 < cLine) (ho : PE X o td) (hi : PE X i ty) (hs : NoSl i) : PE X (.Subscript o i pos) (tOp (rDgX X.K) td ty) := by
  refine ⟨fun pins s σ H Q I h => ?_⟩
  refine subD_of PySem.F.slot_dict_getitem.lookup hs (thn (ho.run pins s σ H _ I h) fun u s1 ⟨x, H1, I1, rx, q1⟩ => thn (hi.run pins s1 σ H1 _ I1 q1) fun iv s2 ⟨y, H2, I2, ry, a, ws, k, b, v, ex, hd, ey, hb, hv, q2⟩ => ?_)
  subst ex ey
  obtain rfl : u = Value.ref a := rx
  obtain rfl : iv = Value.ref b := ry
  obtain ⟨h0, xs, h1, h2, h3, h4⟩ := hd
  have dd := DtX.dict I2 h1 h2 h3
  obtain ⟨w', hw, rw'⟩ := RelO.some_of (v := v) (o := (atKey xs k).map (·.2)) (by rw [← hv]; exact KTn.val h2 k)
  obtain ⟨p, hp, hp2⟩ := Option.map_eq_some_iff.mp hw
  refine ⟨dd.typeIs, wpAny_getItem_heap (tupleKind_room_in1 hu) (SqN.key I2 hb) dd hp ?_⟩
  rw [hp2]
  exact ⟨v, H2, I2.tok _, rw', q2⟩
def sDPutX (K : PySem.W.Frag) (td ty tv : TE) : TS := fun D σ H => tv σ H fun v H1 => td σ H1 fun x H2 => ty σ H2 fun y H3 => ∃ (a : Addr) (ws : List (List Key × V)) (is : List Int) (b : Addr), x = .ref a ∧ y = .ref b ∧ (DtX K H3 a ws ∨ (H3 a = some (.dK []) ∧ ws = [])) ∧
  SqN K H3 b ((is.map Sum.inl : List Key).map kV) ∧ ws.length < sizeLine ∧ ∀ u, DtX K (upd H3 a u) a (putK ws (is.map Sum.inl) v) → D.nx σ (upd H3 a u)
theorem sqN_upd {K : PySem.W.Frag} {D : Addr} {o : HO} (h : ∀ x y, H D ≠ some (.frz x y)) {b : Addr} {vs : List V} (q : SqN K H b vs) : SqN K (upd H D o) b vs := by
  rcases q with ⟨u, q, d⟩ | q
  · exact .inl ⟨u, by rw [upd_ne (show b ≠ D from fun z => h u (.tup vs) (by rw [← z]; exact q))]; exact q, d⟩
  · exact .inr q
theorem ps_dputX {o i e : Expr} {td ty tv : TE} {pos pos' : Pos} (hu : X.A.units + 1 < cLine) (ho : PE X o td) (hi : PE X i ty) (hv : PE X e tv) (hs : swapsWith e (some (.Subscript o i pos')) pos.line X.env = pure false) :
    PS X (.Assign [.Subscript o i pos'] e pos) (sDPutX X.K td ty tv) := by
  refine ⟨fun pins s σ H D I h => ?_⟩
  refine wpAny_Assign_Subscript (thn (hv.run pins s σ H _ I h) fun r s1 ⟨v, H1, I1, rv, q1⟩ => thn (ho.run pins s1 σ H1 _ I1 q1) fun u s2 ⟨x, H2, I2, rx, q2⟩ => thn (hi.run pins s2 σ H2 _ I2 q2) fun iv s3 ⟨y, H3, I3, ry, a, ws, is, b, ex, ey, hd, hb, hl, q3⟩ => ?_) hs
  subst ex ey
  obtain rfl : u = Value.ref a := rx
  obtain rfl : iv = Value.ref b := ry
  obtain ⟨xs, h0, hm, hf, h2, h3, h4, dd⟩ : ∃ xs, (a == sysModules) = false ∧ Mut (H3 a) ∧ (∀ x y, H3 a ≠ some (.frz x y)) ∧ KTn X.K H3 ws xs ∧ (xs.map (·.1)).Nodup ∧ (∀ q ∈ xs, ∃ is : List Int, q.1 = is.map Sum.inl) ∧ s3.heap.DictOfH (tupleKind (mixKind X.prog X.w)) a xs := by
    rcases hd with ⟨h0, xs, h1, h2, h3, h4⟩ | ⟨h1, rfl⟩
    · exact ⟨xs, h0, (by rw [h1]; exact True.intro), (fun _ _ z => by rw [h1] at z; cases z), h2, h3, h4, DtX.dict I3 h1 h2 h3⟩
    · obtain ⟨_, h0, vs, r, o, es, ep, e1, e2, e3, e4, e5⟩ := dk_of I3.hok h1
      cases r
      refine ⟨[], h0, (by rw [h1]; exact True.intro), (fun _ _ z => by rw [h1] at z; cases z), .nil, List.nodup_nil, fun q hq => (List.not_mem_nil hq).elim, o, es, ep, e1, e2, e3, ?_, fun q hq => (List.not_mem_nil hq).elim, List.nodup_nil⟩
      cases h : es.toList with
      | nil => rfl
      | cons x y => have q := e5.1; rw [h] at q; exact nomatch q
  have hz : xs.length ≤ sizeLine := by rw [← Paired.length h2]; exact Nat.le_of_lt hl
  refine wpAny_setItem_heap (hsz := hz) (tupleKind_room_in1 hu) (SqN.key I3 hb) dd fun h' dd' hsame => ?_
  obtain ⟨q, es, ep, hq, g2, g3, g4, _, g5⟩ := dd'
  have hi4 := stored_ints h4 is b r
  have ob : ObjOk X.prog X.w (upd H3 a (DTo a (storedH xs (is.map Sum.inl) b r))) h' a (DTo a (storedH xs (is.map Sum.inl) b r)) := by
    refine ⟨⟨q, es, ep, hq, g2, g3, fun P w => g4.trans (ents_any hi4)⟩, ⟨q, hq⟩, ?_⟩
    rintro k1 k2 ⟨o, es, ep, e1, e2⟩ st
    exact ⟨o, es, ep, st _ e1, e2⟩
  exact ⟨σ, _, d_write I3 hm hsame ⟨q, hq⟩ ob, q3 _ ⟨h0, _, upd_same, Paired.mapP (KTn.put h2 (is.map Sum.inl) hb rv) fun _ _ z => ⟨z.1, sqN_upd hf z.2.1, z.2.2⟩, g5, hi4⟩⟩
end
def keyT (y : Va) : Option (List Int) := match y with
  | .tup ys => intsV ys
  | _ => none
def inls (is : List Int) : List Key := is.map Sum.inl
theorem inls_kV (is : List Int) : (inls is).map kV = is.map V.int := by
  unfold inls; rw [List.map_map]; rfl
theorem keyT_rv {g : Gd} {ρ : List Addr} {H : Hp} {y : Va} {v : V} {is : List Int} (r : Rv g ρ H y v) (e : keyT y = some is) : ∃ b, v = .ref b ∧ SqN g.K H b ((inls is).map kV) := by
  unfold keyT at e
  split at e
  · simp only [Rv] at r
    obtain ⟨a, vs, rfl, hs, rv⟩ := r
    exact ⟨a, rfl, by rw [inls_kV, ← intsV_rv rv e]; exact hs⟩
  · cases e
def kDgX : K2 := fun x y h => match x with
  | .ref r => match h[r]? with
    | some (.dT kvs) => (keyT y).bind fun k => (gK kvs (inls k)).map fun v => (v, h)
    | _ => none
  | _ => none
section
variable {g : Gd} {X : Cx} {W : WX} {n : Nat} {pos : Pos}
theorem p_dgX : P2 g (rDgX g.K) kDgX := by
  intro ρ H hp x y vx vy v h' Q R rx ry e q
  unfold kDgX at e
  split at e
  · rename_i r
    simp only [Rv] at rx
    obtain ⟨a, ha, rfl⟩ := rx
    split at e
    · rename_i kvs hx
      obtain ⟨k, hk, e⟩ := Option.bind_eq_some_iff.mp e
      obtain ⟨u, hu, e⟩ := Option.map_eq_some_iff.mp e
      cases e
      obtain ⟨ws, e2, rk⟩ := R.obj r a _ ha hx
      obtain ⟨z, hz, rz⟩ := rk.get hu
      obtain ⟨b, rfl, hb⟩ := keyT_rv ry hk
      exact ⟨a, ws, _, b, z, rfl, e2, rfl, hb, hz, q ρ H _ (.refl _ _) R rz⟩
    · cases e
  · cases e
theorem e_dgX {a b : Expr} {fa fb : De} (ha : SE g X W n a fa) (hb : SE g X W n b fb) (hs : PlainIx b := by exact fun _ _ => rfl) : SE g X W n (.Subscript a b pos) (dOp kDgX fa fb) := by
  intro C
  have hK := C.K
  have h := pe_dgetX (pos := pos) (by have := C.units; omega) (ha C) (hb C) hs
  rw [hK] at h
  exact h.imp fun σ H Q w => op_imp p_dgX w
def kPutX (o i v : Va) (h : Hs) : Option Hs := match o with
  | .ref r => match h[r]? with
    | some (.dT kvs) => if decide (kvs.length < 1000) then (keyT i).map fun k => h.set r (.dT (pK kvs (inls k) v)) else none
    | some (.dK []) => (keyT i).map fun k => h.set r (.dT [(inls k, v)])
    | _ => none
  | _ => none
theorem s_putX {o i e : Expr} {pos' : Pos} {fo fi fv : De} (ho : SE g X W n o fo) (hi : SE g X W n i fi) (hv : SE g X W n e fv)
    (hs : swapsWith e (some (.Subscript o i pos')) pos.line X.env = pure false := by rfl) : SS g X W n (.Assign [.Subscript o i pos'] e pos) (dPutK kPutX fo fi fv) := by
  intro C
  have hK := C.K
  have p := ps_dputX (pos := pos) (pos' := pos') (by have := C.units; omega) (ho C) (hi C) (hv C) hs
  rw [hK] at p
  refine p.imp ?_
  rintro D σ H ⟨ρ, s, hp, R, L, h⟩
  refine bS h R L fun v h1 ρ1 H1 x S1 R1 r1 L1 p1 => bS p1 R1 L1 fun o h2 ρ2 H2 y S2 R2 r2 L2 p2 => bS p2 R2 L2 fun i h3 ρ3 H3 z S3 R3 r3 L3 p3 => ?_
  split at p3
  · rename_i h4 hk
    unfold kPutX at hk
    split at hk
    · rename_i r
      have r2' := Rv.step R2 S3 _ _ r2
      have r1' := Rv.step R2 S3 _ _ (Rv.step R1 S2 _ _ r1)
      simp only [Rv] at r2'
      obtain ⟨a, ha, rfl⟩ := r2'
      split at hk
      · rename_i kvs hx
        by_cases hl : kvs.length < 1000
        · rw [if_pos (decide_eq_true hl)] at hk
          obtain ⟨k, hj, rfl⟩ := Option.map_eq_some_iff.mp hk
          obtain ⟨ws, e2, rk⟩ := R3.obj r a _ ha hx
          obtain ⟨b, rfl, hb⟩ := keyT_rv r3 hj
          refine ⟨a, ws, k, b, rfl, rfl, .inl e2, hb, by rw [← rk.length, sizeLine_eq]; omega, fun u du => ?_⟩
          obtain ⟨_, xs, e3, _⟩ := e2
          obtain ⟨S4, R4⟩ := R3.put (u := u) (o := .dT (pK kvs (inls k) v)) ha (fun _ _ z => by rw [e3] at z; cases z) fun S => ⟨_, du, Rkv.step R3 S _ _ (rk.put r1' (inls k))⟩
          exact p3 ρ3 _ σ S4 R4 (L3.step R3 S4)
        · rw [if_neg (fun z => hl (of_decide_eq_true z))] at hk; cases hk
      · rename_i hx
        obtain ⟨k, hj, rfl⟩ := Option.map_eq_some_iff.mp hk
        obtain ⟨ws, e2, rk⟩ := R3.obj r a _ ha hx
        cases rk
        obtain ⟨b, rfl, hb⟩ := keyT_rv r3 hj
        refine ⟨a, [], k, b, rfl, rfl, .inr ⟨e2, rfl⟩, hb, by rw [sizeLine_eq]; decide, fun u du => ?_⟩
        obtain ⟨S4, R4⟩ := R3.put (u := u) (o := .dT [(inls k, v)]) ha (fun _ _ z => by rw [e2] at z; cases z) fun S => ⟨_, du, ⟨_, _, rfl, Rv.step R3 S _ _ r1', rfl⟩⟩
        exact p3 ρ3 _ σ S4 R4 (L3.step R3 S4)
      · cases hk
    · cases hk
  · exact p3.elim
end
end Wr
set_option Elab.async false
set_option linter.all false
set_option maxRecDepth 100000
set_option maxHeartbeats 4000000
set_option autoImplicit false
namespace Wr
open PySem PySem.Spec PyProof.Rows L2
end Wr
set_option Elab.async false
set_option linter.all false
set_option maxRecDepth 100000
set_option maxHeartbeats 4000000
set_option autoImplicit false
namespace Wr
open PySem PySem.Spec PyProof.Rows L2
def thT (n0 : Nat) (live : List Nat) (r : RS) (k : Ds) : RS := match r with
  | .nx s1 h1 => match cleanS n0 live s1 h1 with
    | some (s2, h2) => k s2 h2
    | none => .no
  | .rt v h1 => .rt v h1
  | .bk s1 h1 => .bk s1 h1
  | .ct s1 h1 => .ct s1 h1
  | .ex c s1 h1 => .ex c s1 h1
  | .no => .no
def dSeqT (n0 : Nat) (live : List Nat) (f k : Ds) : Ds := fun s h => thT n0 live (f s h) k
def dBase (b : Nat → Ds) : Ds := fun s h => b h.length s h
def dForT (live : List Nat) (di : Di) (t : Tg) (body : Nat → Ds) : Ds := fun s h => (di s h).bindS s fun it h1 => forC h1.length live it t (body h1.length) (itLen it h1 + 1) 0 s h1
def tSB (g : Gd) (W : WX) (f : Nat → Ds) : TS := fun D σ H => ∃ ρ0 H0 ρ s hp, Sp1 ρ0 H0 ρ H ∧ Rh g ρ H hp ∧ Rsl g ρ H s σ ∧ PoS g ρ0 H0 (f ρ0.length s hp) D W
def SSn (g : Gd) (X : Cx) (W : WX) (n : Nat) (s : Stmt) (f : Nat → Ds) : Prop := Cz g X W n → PS X s (tSB g W f)
def SBn (g : Gd) (X : Cx) (W : WX) (n : Nat) (s : List Stmt) (f : Nat → Ds) : Prop := Cz g X W n → PSs X s (tSB g W f)
section
variable {g : Gd} {X : Cx} {W : WX} {n : Nat} {st : Stmt} {sts : List Stmt} {pos : Pos}
theorem sn_lift {f : Ds} (h : SS g X W n st f) : SSn g X W n st (fun _ => f) := fun C => (h C).imp fun D σ H ⟨ρ0, H0, ρ, s, hp, S, R, L, q⟩ => ⟨ρ, s, hp, R, L, PoS.at q S⟩
theorem b_base {b : Nat → Ds} (h : SBn g X W n sts b) : SB g X W n sts (dBase b) := fun C => (h C).imp fun D σ H ⟨ρ, s, hp, R, L, q⟩ => ⟨ρ, H, ρ, s, hp, .refl _ _, R, L, by rw [R.len]; exact q⟩
theorem bn_one {f : Nat → Ds} (h : SSn g X W n st f) : SBn g X W n [st] f := fun C => pss_one (h C)
theorem bn_nil : SBn g X W n [] (fun _ => dNx) := fun C => (b_nil (g := g) (X := X) (W := W) (n := n) C).imp fun D σ H ⟨ρ0, H0, ρ, s, hp, S, R, L, q⟩ => ⟨ρ, s, hp, R, L, PoS.at q S⟩
theorem bn_cons (live : List Nat) {f k : Nat → Ds} (h : SSn g X W n st f) (h' : SBn g X W n sts k) : SBn g X W n (st :: sts) (fun n0 => dSeqT n0 live (f n0) (k n0)) := by
  intro C
  refine (pss_cons (h C) (h' C)).imp ?_
  rintro D σ H ⟨ρ0, H0, ρ, s, hp, S, R, L, h⟩
  refine ⟨ρ0, H0, ρ, s, hp, S, R, L, ?_⟩
  have h : PoS g ρ0 H0 (thT ρ0.length live (f ρ0.length s hp) (k ρ0.length)) D W := h
  cases q : f ρ0.length s hp with
  | nx s1 h1 =>
    rw [q] at h
    simp only [thT] at h
    cases hc : cleanS ρ0.length live s1 h1 with
    | none => rw [hc] at h; exact h.elim
    | some w =>
      obtain ⟨s2, h2⟩ := w
      rw [hc] at h
      intro ρ1 H1 σ1 S1 R1 L1
      obtain ⟨ρ2, S2, R2, L2⟩ := clean_ok S1 R1 L1 hc
      exact ⟨ρ0, H0, ρ2, s2, h2, S2, R2, L2, h⟩
  | rt v h1 => rw [q] at h; exact h
  | bk s1 h1 => rw [q] at h; exact h
  | ct s1 h1 => rw [q] at h; exact h
  | ex c s1 h1 => rw [q] at h; exact h
  | no => rw [q] at h; exact h
theorem sn_if {c : Expr} {x y : List Stmt} {t : Dt} {f k : Nat → Ds} (hc : ST g X W n c t) (h : SBn g X W n x f) (h' : SBn g X W n y k) : SSn g X W n (.If c x y pos) (fun n0 => dIfS t (f n0) (k n0)) := by
  intro C
  refine (ps_if (hc C) (h C) (h' C)).imp ?_
  rintro D σ H ⟨ρ0, H0, ρ, s, hp, S, R, L, h⟩
  have q := PoS.at h S
  refine ⟨ρ, s, hp, R, L, ?_⟩
  have h : PoS g ρ0 H0 ((t s hp).bindS s fun c h1 => match c with
    | true => f ρ0.length s h1
    | false => k ρ0.length s h1) D W := h
  cases e : t s hp with
  | no => rw [e] at h; exact h
  | ex c h1 => rw [e] at h; exact fun ρ1 H1 S1 R1 => h ρ1 H1 σ (S.trans S1) R1 (L.step R S1)
  | ok b h1 =>
    rw [e] at h
    intro ρ1 H1 S1 R1
    cases b with
    | true => exact ⟨ρ0, H0, ρ1, s, h1, S.trans S1, R1, L.step R S1, h⟩
    | false => exact ⟨ρ0, H0, ρ1, s, h1, S.trans S1, R1, L.step R S1, h⟩
theorem s_forT {tg iter : Expr} (live : List Nat) {b : Bool} {body : List Stmt} {di : Di} {t : Tg} {f : Nat → Ds} (hi : SI g X W (n + 1) b tg iter di) (hg : SG g X b tg t) (hb : SBn g X W (n + 1) body f) (hs : ∀ x, foldedSetIterable iter X.env x = pure x := by intro _; rfl) :
    SS g X W (n + 1) (.For tg iter body [] pos) (dForT live di t f) := by
  intro C
  refine (ps_for C.pass C.calm (hi C) (hg C.K C.calm C.nd) (hb C) hs).imp ?_
  rintro D σ H ⟨ρ, s, hp, R, L, h⟩
  refine ⟨ρ, s, hp, R, L, ?_⟩
  unfold dForT at h
  cases q : di s hp with
  | no => rw [q] at h; exact h
  | ex c h1 => rw [q] at h; exact fun ρ1 H1 S1 R1 => h ρ1 H1 σ S1 R1 (L.step R S1)
  | ok it h1 =>
    rw [q] at h
    intro ρ0 H0 J S0 R0 hJ
    have h' := PoS.at h S0
    simp only [Rs.bindS] at h'
    rw [← R0.len] at h'
    refine ⟨fun i m σ1 H1 => ∃ ρ1 s1 h2, Sp1 ρ0 H0 ρ1 H1 ∧ Rh g ρ1 H1 h2 ∧ Rsl g ρ1 H1 s1 σ1 ∧ PoS g ρ0 H0 (forC ρ0.length live it t (f ρ0.length) m i s1 h2) D W, ⟨itLen it h1 + 1, ρ0, s, h1, .refl _ _, R0, L.step R S0, h'⟩, ?_⟩
    rintro i m σ1 H1 ⟨ρ1, s1, h2, S1, R1, L1, p1⟩
    cases m with
    | zero => exact p1.elim
    | succ m =>
      unfold forC at p1
      cases hc : cleanS ρ0.length live s1 h2 with
      | none => rw [hc] at p1; exact p1.elim
      | some w =>
        obtain ⟨s1', h2'⟩ := w
        rw [hc] at p1
        simp only at p1
        obtain ⟨ρ2, S1', R1', L1'⟩ := clean_ok S1 R1 L1 hc
        clear S1 R1 L1 hc
        split at p1
        · exact p1.elim
        · rename_i hq
          exact .inl ⟨hJ i ρ2 H1 h2' none S1' R1' hq, p1 ρ2 H1 σ1 S1' R1' L1'⟩
        · rename_i v hq
          obtain ⟨hgo, hy⟩ := hJ i ρ2 H1 h2' (some v) S1' R1' hq
          refine .inr ⟨hgo, fun σ' H' => ∃ ρ1 s1 h2, Sp1 ρ0 H0 ρ1 H' ∧ Rh g ρ1 H' h2 ∧ Rsl g ρ1 H' s1 σ' ∧ PoS g ρ0 H0 (forC ρ0.length live it t (f ρ0.length) m (i + 1) s1 h2) D W, fun σ' H' w => ⟨m, Nat.lt_succ_self m, w⟩, fun x H2 hyl => ?_⟩
          obtain ⟨S2, R2, ry⟩ := hy x H2 hyl
          split at p1
          · exact p1.elim
          · rename_i s2 hset
            have SS := S1'.trans S2
            refine ⟨ρ2, s1', h2', v, s2, R2, L1'.step R1' S2, ry, hset, fun σ' L' _ => ⟨ρ0, H0, ρ2, s2, h2', SS, R2, L', ?_⟩⟩
            cases qb : f ρ0.length s2 h2' with
            | nx s3 h3 => rw [qb] at p1; exact fun ρ3 H3 σ3 S3 R3 L3 => ⟨ρ3, s3, h3, S3, R3, L3, p1⟩
            | ct s3 h3 => rw [qb] at p1; exact fun ρ3 H3 σ3 S3 R3 L3 => ⟨ρ3, s3, h3, S3, R3, L3, p1⟩
            | bk s3 h3 => rw [qb] at p1; exact fun ρ3 H3 σ3 S3 R3 L3 => p1 ρ3 H3 σ3 S3 R3 L3
            | rt v h3 => rw [qb] at p1; exact fun ρ3 H3 x3 S3 R3 L3 => p1 ρ3 H3 x3 S3 R3 L3
            | ex c s3 h3 => rw [qb] at p1; exact fun ρ3 H3 x3 S3 R3 L3 => p1 ρ3 H3 x3 S3 R3 L3
            | no => rw [qb] at p1; exact p1
end
end Wr
set_option Elab.async false
set_option linter.all false
set_option maxRecDepth 100000
set_option maxHeartbeats 4000000
set_option autoImplicit false
namespace Wr
open PySem PySem.Spec PyProof.Rows L2
end Wr
set_option Elab.async false
set_option linter.all false
set_option maxRecDepth 100000
set_option maxHeartbeats 4000000
set_option autoImplicit false
namespace Wr
open PySem PySem.Spec PyProof.Rows L2
end Wr
set_option Elab.async false
set_option linter.all false
set_option maxRecDepth 100000
set_option maxHeartbeats 4000000
set_option autoImplicit false
namespace Wr
open PySem PySem.Spec PyProof.Rows L2
mutual
def NI (h : Heap) : NestedKey → Value → Prop
  | .num i, v => ∃ t, v = .int i t
  | .tup ks, v => ∃ a o vs n, v = .ref a ∧ h.get? a = some o ∧ o.cls = .type "tuple" ∧ o.data = .seq vs n ∧ NIs h ks vs.toList
  | .none, _ => False
  | .text _, _ => False
def NIs (h : Heap) : List NestedKey → List Value → Prop
  | [], vs => vs = []
  | k :: ks, vs => ∃ v r, vs = v :: r ∧ NI h k v ∧ NIs h ks r
end
section
variable {h h' : Heap}
mutual
theorem NI.nested : ∀ (k : NestedKey) (v : Value), NI h k v → NestedIs h k v
  | .num i, v, x => by simp only [NI] at x; obtain ⟨t, rfl⟩ := x; exact .int i t
  | .tup ks, v, x => by simp only [NI] at x; obtain ⟨a, o, vs, n, rfl, e, c, d, r⟩ := x; exact .tup e c d (NIs.nested ks _ r)
  | .none, v, x => by simp only [NI] at x
  | .text _, v, x => by simp only [NI] at x
theorem NIs.nested : ∀ (ks : List NestedKey) (vs : List Value), NIs h ks vs → NestedAll h ks vs
  | [], vs, x => by simp only [NIs] at x; subst x; exact .nil
  | k :: ks, vs, x => by simp only [NIs] at x; obtain ⟨v, r, rfl, a, b⟩ := x; exact .cons (NI.nested k v a) (NIs.nested ks r b)
end
mutual
theorem NI.at (hk : ∀ a o vs n, h.get? a = some o → o.data = .seq vs n → o.cls = .type "tuple" → h'.get? a = some o) : ∀ (k : NestedKey) (v : Value), NI h k v → NI h' k v
  | .num i, v, x => by simp only [NI] at x ⊢; exact x
  | .tup ks, v, x => by simp only [NI] at x ⊢; obtain ⟨a, o, vs, n, q, e, c, d, r⟩ := x; exact ⟨a, o, vs, n, q, hk a o vs n e d c, c, d, NIs.at hk ks _ r⟩
  | .none, v, x => by simp only [NI] at x
  | .text _, v, x => by simp only [NI] at x
theorem NIs.at (hk : ∀ a o vs n, h.get? a = some o → o.data = .seq vs n → o.cls = .type "tuple" → h'.get? a = some o) : ∀ (ks : List NestedKey) (vs : List Value), NIs h ks vs → NIs h' ks vs
  | [], vs, x => by simp only [NIs] at x ⊢; exact x
  | k :: ks, vs, x => by simp only [NIs] at x ⊢; obtain ⟨v, r, q, a, b⟩ := x; exact ⟨v, r, q, NI.at hk k v a, NIs.at hk ks r b⟩
end
theorem NIs.length : ∀ (ks : List NestedKey) (vs : List Value), NIs h ks vs → vs.length = ks.length
  | [], vs, x => by simp only [NIs] at x; subst x; rfl
  | k :: ks, vs, x => by simp only [NIs] at x; obtain ⟨v, r, rfl, a, b⟩ := x; simp [NIs.length ks r b]
theorem NIs.get : ∀ (ks : List NestedKey) (vs : List Value), NIs h ks vs → ∀ v ∈ vs, ∃ k ∈ ks, NI h k v
  | [], vs, x, v, hv => by simp only [NIs] at x; subst x; cases hv
  | k :: ks, vs, x, v, hv => by
    simp only [NIs] at x; obtain ⟨u, r, rfl, a, b⟩ := x
    rcases List.mem_cons.mp hv with e | hv
    · exact ⟨k, List.mem_cons_self, e ▸ a⟩
    · obtain ⟨k', h1, h2⟩ := NIs.get ks r b v hv
      exact ⟨k', List.mem_cons_of_mem _ h1, h2⟩
theorem NIs.getAt : ∀ (ks : List NestedKey) (vs : List Value), NIs h ks vs → ∀ (j : Nat) (hj : j < vs.length), NI h (ks.getD j .none) vs[j]
  | [], vs, x, j, hj => by simp only [NIs] at x; subst x; cases hj
  | k :: ks, vs, x, j, hj => by
    simp only [NIs] at x; obtain ⟨u, r, rfl, a, b⟩ := x
    cases j with
    | zero => simpa using a
    | succ j => simpa using NIs.getAt ks r b j (by simpa using hj)
theorem depthAll_le : ∀ (ks : List NestedKey) (k : NestedKey), k ∈ ks → k.depth ≤ NestedKey.depthAll ks
  | [], k, hk => by cases hk
  | a :: ks, k, hk => by
    simp only [NestedKey.depthAll]
    rcases List.mem_cons.mp hk with rfl | hk
    · omega
    · have := depthAll_le ks k hk; omega
end
section
variable {P : Program} {w : World} {A : Around} {E : Value → Shared → Prop} {s : Shared}
/-- its hash is by value -/
theorem hbv_key : ∀ (n : Nat) (k : NestedKey) (v : Value) (A : Around) (E : Value → Shared → Prop) (Q : Bool → Shared → Prop), NI s.heap k v → k.depth ≤ n → Q true s → wpAny (model P w) A (hashByValue n v) Q E s := by
  intro n
  induction n with
  | zero =>
    intro k v A E Q x hd q
    cases k with
    | num i => simp only [NI] at x; obtain ⟨t, rfl⟩ := x; rw [hashBy_int]; exact wpAny_pure q
    | tup ks => simp only [NestedKey.depth] at hd; omega
    | none => simp only [NI] at x
    | text _ => simp only [NI] at x
  | succ n ih =>
    intro k v A E Q x hd q
    cases k with
    | num i => simp only [NI] at x; obtain ⟨t, rfl⟩ := x; rw [hashBy_int]; exact wpAny_pure q
    | none => simp only [NI] at x
    | text _ => simp only [NI] at x
    | tup ks =>
      simp only [NI] at x
      obtain ⟨a, o, vs, m, rfl, e, c, d, r⟩ := x
      simp only [NestedKey.depth] at hd
      unfold hashByValue
      refine wpAny_bind (wpAny_specialOf (show s.TypeIs (.ref a) "tuple" from ⟨o, e, c⟩) F.slot_tuple_hash.lookup ?_)
      show wpAny _ _ (seqItems? (.ref a) >>= _) _ _ s
      refine wpAny_bind (wpAny_seqItems e d ?_)
      refine wpAny_bind ?_
      show wpAny _ _ (forIn vs _ _) _ _ s
      rw [← Array.forIn_toList]
      refine wpAny_forIn_list _ (fun rest r s' => r.1 = none ∧ s' = s ∧ ∀ u ∈ rest, ∃ k ∈ ks, NI s.heap k u) _ ?_ ?_ _ _ ⟨rfl, rfl, NIs.get ks _ r⟩
      · rintro u rest r s' ⟨hr, rfl, hall⟩
        obtain ⟨k', hk', hu⟩ := hall u List.mem_cons_self
        refine wpAny_bind (ih k' u _ _ _ hu (by have := depthAll_le ks k' hk'; omega) ?_)
        simp only [Bool.not_true, Bool.false_eq_true, if_false]
        exact wpAny_pure ⟨rfl, rfl, fun z hz => hall z (List.mem_cons_of_mem _ hz)⟩
      · rintro ⟨r1, r2⟩ s' ⟨hr, rfl, _⟩
        simp only at hr
        subst hr
        exact wpAny_pure q
/-- at b stands the tuple k -/
def TK8 (h : Heap) (k : NestedKey) (b : Addr) : Prop := NI h k (.ref b) ∧ k.depth ≤ 8
theorem TK8.kd {h : Heap} {k : NestedKey} {b : Addr} (x : TK8 h k b) : (nestedKind P w).is h k b := ⟨NI.nested _ _ x.1, x.2⟩
theorem TK8.inj {h : Heap} {k k' : NestedKey} {b : Addr} (x : TK8 h k b) (y : TK8 h k' b) : k = k' := NestedIs.inj _ _ _ (NI.nested _ _ x.1) (NI.nested _ _ y.1)
abbrev nh (w : World) (k : NestedKey) : Int := k.hash w
end
end Wr
set_option Elab.async false
set_option linter.all false
set_option maxRecDepth 100000
set_option maxHeartbeats 4000000
set_option autoImplicit false
namespace Wr
open PySem PySem.Spec PyProof.Rows L2
section
variable {P : Program} {w : World} {A : Around} {E : Value → Shared → Prop} {s : Shared}
abbrev Ent := Addr × NestedKey
def entR (w : World) (p : Ent) : Int × Value := (nh w p.2, Value.ref p.1)
/-- the set at a holds the entries L, in the order of its table -/
structure SetN (w : World) (h : Heap) (a : Addr) (L : List Ent) (es : Array (Int × Value)) (ep : Nat) (t : SetTable) : Prop where
  ob : ∃ o, h.get? a = some o ∧ o.ExactSet ∧ o.data = .set es ep t
  rows : es.toList = L.map (entR w)
  tab : TabOk t (L.map fun p => nh w p.2)
  nd : (L.map (·.2)).Nodup
  tup : ∀ p ∈ L, TK8 h p.2 p.1
  plain : t.plain = true
  led : w.params.followText "set-order" = true ∨ t.led = true
  room : L.length * 5 < t.mask * 3
  few : L.length < 64
variable {a : Addr} {L : List Ent} {es : Array (Int × Value)} {ep : Nat} {t : SetTable}
theorem ent_size {es : Array (Int × Value)} {L : List Ent} (h : es.toList = L.map (entR w)) : es.size = L.length := by
  rw [← Array.length_toList, h, List.length_map]
theorem ent_at {es : Array (Int × Value)} {L : List Ent} (h : es.toList = L.map (entR w)) {i : Nat} {p : Ent} (hp : L[i]? = some p) : es[i]? = some (entR w p) := by
  rw [← Array.getElem?_toList, h, List.getElem?_map, hp]; rfl
theorem fits_of (hsz : t.place.size = es.size) (hdm : t.dummies = #[]) (hfl : es.size ≤ t.mask) : t.fits es.size = true := by
  unfold SetTable.fits SetTable.fill
  rw [hdm, Bool.and_eq_true, beq_iff_eq, decide_eq_true_eq]
  show t.place.size = es.size ∧ t.place.size + 0 ≤ t.mask
  omega
theorem SetN.psz (R : SetN w s.heap a L es ep t) : t.place.size = L.length := by
  have := R.tab.sz
  rwa [List.length_map] at this
theorem SetN.fits (R : SetN w s.heap a L es ep t) : t.fits es.size = true := by
  have h2 := ent_size R.rows
  have h3 := R.room
  exact fits_of (by rw [R.psz, h2]) R.tab.dm (by omega)
theorem SetN.calm (R : SetN w s.heap a L es ep t) : ¬ t.gaveWay = true := by
  unfold SetTable.gaveWay
  rw [mask_odd R.tab.mok]
  decide
/-- a tuple is not the set -/
theorem TK8.beside {h h' : Heap} {k : NestedKey} {a b : Addr} {o : Obj} {es : Array (Int × Value)} {ep : Nat} {t : SetTable} (x : TK8 h k b) (ho : h.get? a = some o) (hd : o.data = .set es ep t) (hs : Heap.SameBut a h h') : TK8 h' k b := by
  refine ⟨NI.at (fun c u vs n e d _ => (hs.2 c fun z => ?_).trans e) _ _ x.1, x.2⟩
  subst z
  rw [ho] at e; cases e
  rw [hd] at d; cases d
theorem TK8.keep {h h' : Heap} {k : NestedKey} {b : Addr} (x : TK8 h k b) (hk : ∀ c o, h.get? c = some o → h'.get? c = some o) : TK8 h' k b :=
  ⟨NI.at (fun c u _ _ e _ _ => hk c u e) _ _ x.1, x.2⟩
/-- the entries in another order -/
theorem in_order (L : List Ent) (es : Array (Int × Value)) (order : Array Nat) (hr : es.toList = L.map (entR w)) (hp : order.toList.Perm (List.range L.length)) :
    ∃ L2 : List Ent, (order.filterMap (es[·]?)).toList = L2.map (entR w) ∧ L2.Perm L ∧ (L2.map fun p => nh w p.2) = order.toList.map fun i => (es.map (·.1)).getD i 0 := by
  have key : ∀ l : List Nat, (∀ i ∈ l, i < L.length) → l.filterMap (fun i => es[i]?) = (l.filterMap fun i => L[i]?).map (entR w) ∧ ((l.filterMap fun i => L[i]?).map fun p => nh w p.2) = l.map fun i => (es.map (·.1)).getD i 0 := by
    intro l
    induction l with
    | nil => exact fun _ => ⟨rfl, rfl⟩
    | cons i l ih =>
      intro hl
      have hi := hl i List.mem_cons_self
      obtain ⟨e1, e2⟩ := ih fun j hj => hl j (List.mem_cons_of_mem _ hj)
      have hg := List.getElem?_eq_getElem hi
      have he := ent_at hr hg
      constructor
      · rw [List.filterMap_cons_some he, List.filterMap_cons_some hg, List.map_cons, e1]
      · rw [List.filterMap_cons_some hg, List.map_cons, List.map_cons, e2]
        have e5 : (es.map (·.1))[i]? = some (nh w (L[i]).2) := by rw [Array.getElem?_map, he]; rfl
        rw [show (es.map (·.1)).getD i 0 = nh w (L[i]).2 by simp [Array.getD_eq_getD_getElem?, e5]]
  obtain ⟨e1, e3⟩ := key order.toList fun i hi => List.mem_range.mp (hp.mem_iff.mp hi)
  refine ⟨order.toList.filterMap fun i => L[i]?, by first | (rw [Array.toList_filterMap]; exact e1) | simpa using e1, ?_, e3⟩
  have h1 : (order.toList.filterMap fun i => L[i]?).Perm ((List.range L.length).filterMap fun i => L[i]?) := hp.filterMap _
  have h2 : ∀ n, n ≤ L.length → (List.range n).filterMap (fun i => L[i]?) = L.take n := by
    intro n
    induction n with
    | zero => exact fun _ => rfl
    | succ n ih =>
      intro hn
      have hlt : n < L.length := hn
      rw [List.range_succ, List.filterMap_append, ih (Nat.le_of_lt hlt), List.take_succ, List.getElem?_eq_getElem hlt]
      rw [List.filterMap_cons_some (List.getElem?_eq_getElem hlt)]; rfl
  rw [h2 L.length (Nat.le_refl _), List.take_length] at h1
  exact h1
end
end Wr
set_option Elab.async false
set_option linter.all false
set_option maxRecDepth 100000
set_option maxHeartbeats 4000000
set_option autoImplicit false
namespace Wr
open PySem PySem.Spec PyProof.Rows L2
/-- what a set has from the first i of ks -/
structure Has (ks : List Ent) (i : Nat) (L : List Ent) : Prop where
  sub : ∀ p ∈ L, p ∈ ks.take i
  all : ∀ p ∈ ks.take i, p.2 ∈ L.map (·.2)
theorem Has.step {ks L L' : List Ent} {i : Nat} {x : Ent} (g : Has ks i L) (h : ks[i]? = some x) (c1 : x.2 ∈ L.map (·.2) → L' = L) (c2 : x.2 ∉ L.map (·.2) → L'.Perm (x :: L)) : Has ks (i + 1) L' := by
  have tk : ks.take (i + 1) = ks.take i ++ [x] := by rw [List.take_succ, h]; rfl
  by_cases c : x.2 ∈ L.map (·.2)
  · rw [c1 c]
    refine ⟨fun p hp => by rw [tk]; exact List.mem_append_left _ (g.sub p hp), fun p hp => ?_⟩
    rw [tk] at hp
    rcases List.mem_append.mp hp with z | z
    · exact g.all p z
    · rw [List.mem_singleton.mp z]; exact c
  · have pm := c2 c
    refine ⟨fun p hp => ?_, fun p hp => ?_⟩
    · rw [tk]
      rcases List.mem_cons.mp (pm.mem_iff.mp hp) with e | z
      · rw [e]; exact List.mem_append_right _ (List.mem_singleton.mpr rfl)
      · exact List.mem_append_left _ (g.sub p z)
    · rw [(pm.map (·.2)).mem_iff, List.map_cons]
      rw [tk] at hp
      rcases List.mem_append.mp hp with z | z
      · exact List.mem_cons_of_mem _ (g.all p z)
      · rw [List.mem_singleton.mp z]; exact List.mem_cons_self
section
variable {P : Program} {w : World} {A : Around} {E : Value → Shared → Prop} {s : Shared}
theorem SetN.keep {h h' : Heap} {a : Addr} {L : List Ent} {es : Array (Int × Value)} {ep : Nat} {t : SetTable} (R : SetN w h a L es ep t) (ha : ∀ o, h.get? a = some o → h'.get? a = some o) (ht : ∀ p ∈ L, TK8 h' p.2 p.1) : SetN w h' a L es ep t := by
  obtain ⟨o, ho, r⟩ := R.ob
  exact { R with ob := ⟨o, ha o ho, r⟩, tup := ht }
end
end Wr
set_option Elab.async false
set_option linter.all false
set_option maxRecDepth 100000
set_option maxHeartbeats 4000000
set_option autoImplicit false
namespace Zr
open PySem
theorem run_one {M : Model} {Γ : Ctx} {p : Pos} {t : Sem Fin} {fs : List Frame} {s : Shared} {e : End} {s' : Shared} (h : Runs M Γ p t fs s e s') :
    ∀ (e2 : End) (s2 : Shared), Runs M Γ p t fs s e2 s2 → e = e2 ∧ s' = s2 := by
  induction h <;> intro e2 s2 h2 <;> cases h2
  all_goals first
    | exact ⟨rfl, rfl⟩
    | (rename_i b; apply_assumption; exact b)
    | grind
    | skip
end Zr
set_option Elab.async false
set_option linter.all false
set_option maxRecDepth 100000
set_option maxHeartbeats 4000000
set_option autoImplicit false
namespace Zr
open PySem PySem.Sem PyProof.Rows
theorem wakes_one {M : Model} {Γ : Ctx} {p : Pos} {g : Nat} {r : Resume} {s : Shared} {x y : GenResult} {s1 s2 : Shared} (h1 : Wakes M Γ p g r s x s1) (h2 : Wakes M Γ p g r s y s2) : x = y ∧ s1 = s2 := by
  unfold Wakes at h1 h2
  cases hg : s.gens[g]? with
  | none => rw [hg] at h1; exact h1.elim
  | some v =>
    rw [hg] at h1 h2
    cases v with
    | fresh c =>
      cases r with
      | throw e => exact ⟨h1.1.trans h2.1.symm, h1.2.trans h2.2.symm⟩
      | send u =>
        cases u
        case none =>
          obtain ⟨e, a, ha, _, rfl, rfl⟩ := h1
          obtain ⟨e', a', ha', _, rfl, rfl⟩ := h2
          obtain ⟨rfl, rfl⟩ := run_one ha _ _ ha'
          exact ⟨rfl, rfl⟩
        all_goals exact ⟨h1.1.trans h2.1.symm, h1.2.trans h2.2.symm⟩
    | suspended k l c q fs cl =>
      obtain ⟨e, a, ha, _, rfl, rfl⟩ := h1
      obtain ⟨e', a', ha', _, rfl, rfl⟩ := h2
      obtain ⟨rfl, rfl⟩ := run_one ha _ _ ha'
      exact ⟨rfl, rfl⟩
    | running => exact ⟨h1.1.trans h2.1.symm, h1.2.trans h2.2.symm⟩
    | finished => exact ⟨h1.1.trans h2.1.symm, h1.2.trans h2.2.symm⟩
/-- two words on one tree meet at its one end -/
theorem wp_meet {α : Type} (M : Model) (Γ : Ctx) (t : Sem α) : ∀ (Q1 Q2 : α → Pos → Shared → Prop) (E1 E2 : Value → Pos → Shared → Prop) (p : Pos) (s : Shared),
    wp M Γ t Q1 E1 p s → wp M Γ t Q2 E2 p s → (∃ a p' s', Q1 a p' s' ∧ Q2 a p' s') ∨ ∃ e p' s', E1 e p' s' ∧ E2 e p' s' := by
  induction t with
  | pure a => exact fun Q1 Q2 E1 E2 p s h1 h2 => .inl ⟨a, p, s, h1, h2⟩
  | raise e => exact fun Q1 Q2 E1 E2 p s h1 h2 => .inr ⟨e, p, s, h1, h2⟩
  | unsupported _ => exact fun Q1 Q2 E1 E2 p s h1 h2 => h1.elim
  | finish _ => exact fun Q1 Q2 E1 E2 p s h1 h2 => h1.elim
  | load a part k ih =>
    intro Q1 Q2 E1 E2 p s ⟨o, ho, h1⟩ ⟨o', ho', h2⟩
    rw [ho] at ho'; cases ho'
    exact ih o _ _ _ _ _ _ h1 h2
  | update a part f k ih => exact fun Q1 Q2 E1 E2 p s h1 h2 => ih () _ _ _ _ _ _ h1.2 h2.2
  | register a k _ => exact fun Q1 Q2 E1 E2 p s h1 h2 => h1.elim
  | choose src n k ih => exact fun Q1 Q2 E1 E2 p s h1 h2 => ih _ _ _ _ _ _ _ h1.2 h2.2
  | call c h₀ g l k ih =>
    intro Q1 Q2 E1 E2 p s ⟨r, s1, hr, h1⟩ ⟨r', s1', hr', h2⟩
    obtain ⟨e, e2⟩ := run_one hr _ _ hr'
    cases e; subst e2
    exact ih r _ _ _ _ _ _ h1 h2
  | genState g k ih =>
    intro Q1 Q2 E1 E2 p s ⟨x, hg, h1⟩ ⟨y, hg', h2⟩
    rw [hg] at hg'; cases hg'
    exact ih _ _ _ _ _ _ _ h1 h2
  | resume g r l k ih =>
    intro Q1 Q2 E1 E2 p s ⟨x, s1, hw, h1⟩ ⟨y, s2, hw', h2⟩
    obtain ⟨rfl, rfl⟩ := wakes_one hw hw'
    exact ih _ _ _ _ _ _ _ h1 h2
  | yield v g l k _ => exact fun Q1 Q2 E1 E2 p s h1 h2 => h1.elim
  | fork c k _ => exact fun Q1 Q2 E1 E2 p s h1 h2 => h1.elim
  | await a f d l k _ => exact fun Q1 Q2 E1 E2 p s h1 h2 => h1.elim
  | _ => rename_i ih; exact fun Q1 Q2 E1 E2 p s h1 h2 => ih _ _ _ _ _ _ _ h1 h2
end Zr
set_option Elab.async false
set_option linter.all false
set_option maxRecDepth 100000
set_option maxHeartbeats 4000000
set_option autoImplicit false
namespace Zr
open PySem PyProof.Rows
open PySem.Sem (wp wp_bind' wp_pure' wp_attempt)
/-- the items of a sort and numbers for them, which compare alike -/
structure Gm where
  prog : Program
  w : World
  A : Around
  s : Shared
  Γ : Ctx
  hΓ : Γ.In A
  κ : SortKind
  g : Keyed → Keyed
  num : Keyed → Int
  D : Keyed → Prop
  isNum : ∀ p, D p → ∃ t, p.1 = .int (num p) t
  cmp : ∀ p q, D p → D q → wpAny (model prog w) A (keyLt' κ (g p).1 (g q).1) (fun r s' => s' = s ∧ r = decide (num p < num q)) (fun _ _ => False) s
variable (G : Gm)
def No : Value → Pos → Shared → Prop := fun _ _ _ => False
def RK (p q : Keyed) : Prop := q = G.g p ∧ G.D p
def RA (a b : Array Keyed) : Prop := b = a.map G.g ∧ ∀ x ∈ a, G.D x
structure RSt (a b : SortSt) : Prop where
  k1 : kindOf a = oneType'
  k2 : kindOf b = G.κ
  arr : RA G (arrOf a) (arrOf b)
  pend : pendingOf b = pendingOf a
  gal : gallopOf b = gallopOf a
  f1 : failedOf a = none
  f2 : failedOf b = none
/-- what one program establishes of its end, of numbers, the other one has of the items -/
def Sim {α : Type} (R : α → α → Prop) (t u : StateT SortSt Sem α) : Prop :=
  ∀ a b, RSt G a b → ∀ (K : α × SortSt → Pos → Shared → Prop) (p : Pos) (E : Value → Shared → Prop), wp (model G.prog G.w) G.Γ (t.run a) K No p G.s →
    wpS (model G.prog G.w) G.A E G.s u (fun y b1 => ∃ x a1 p1, R x y ∧ RSt G a1 b1 ∧ K (x, a1) p1 G.s) b
section
variable {G} {α β : Type}
theorem Sim.pure {R : α → α → Prop} {x y : α} (h : R x y) : Sim G R (pure x) (pure y) := by
  intro a b hs K p E hk
  rw [StateT.run_pure, wp_pure'] at hk
  exact wpS_pure ⟨x, a, p, h, hs, hk⟩
theorem Sim.bind {R : α → α → Prop} {S : β → β → Prop} {t u : StateT SortSt Sem α} {f k : α → StateT SortSt Sem β} (h : Sim G R t u) (h2 : ∀ x y, R x y → Sim G S (f x) (k y)) : Sim G S (t >>= f) (u >>= k) := by
  intro a b hs K p E hk
  rw [StateT.run_bind, wp_bind'] at hk
  refine wpS_bind (wpS_mono (h a b hs _ p E hk) ?_)
  rintro y b1 ⟨x, a1, p1, r, hs1, hk1⟩
  exact h2 x y r a1 b1 hs1 K p1 E hk1
theorem Sim.map {R : α → α → Prop} {S : β → β → Prop} {t u : StateT SortSt Sem α} {f : α → β} (h : Sim G R t u) (h2 : ∀ x y, R x y → S (f x) (f y)) : Sim G S (f <$> t) (f <$> u) := by
  rw [map_eq_pure_bind, map_eq_pure_bind]
  exact h.bind fun x y r => Sim.pure (h2 x y r)
theorem Sim.mono {R S : α → α → Prop} {t u : StateT SortSt Sem α} (h : Sim G R t u) (h2 : ∀ x y, R x y → S x y) : Sim G S t u := by
  intro a b hs K p E hk
  refine wpS_mono (h a b hs K p E hk) ?_
  rintro y b1 ⟨x, a1, p1, r, hs1, hk1⟩
  exact ⟨x, a1, p1, h2 _ _ r, hs1, hk1⟩
theorem Sim.ite {R : α → α → Prop} {c : Prop} [Decidable c] {t1 t2 u1 u2 : StateT SortSt Sem α} (h1 : c → Sim G R t1 u1) (h2 : ¬ c → Sim G R t2 u2) : Sim G R (if c then t1 else t2) (if c then u1 else u2) := by
  by_cases h : c
  · rw [if_pos h, if_pos h]; exact h1 h
  · rw [if_neg h, if_neg h]; exact h2 h
def RF (R : β → β → Prop) : ForInStep β → ForInStep β → Prop
  | .done x, .done y => R x y
  | .yield x, .yield y => R x y
  | _, _ => False
theorem Sim.list {R : β → β → Prop} {f k : Nat → β → StateT SortSt Sem (ForInStep β)} (h : ∀ i x y, R x y → Sim G (RF R) (f i x) (k i y)) : ∀ (l : List Nat) (x y : β), R x y → Sim G R (forIn l x f) (forIn l y k)
  | [], x, y, r => by rw [List.forIn_nil, List.forIn_nil]; exact Sim.pure r
  | i :: l, x, y, r => by
    rw [List.forIn_cons, List.forIn_cons]
    refine (h i x y r).bind fun x1 y1 r1 => ?_
    cases x1 with
    | done x2 => cases y1 with
      | done y2 => exact Sim.pure r1
      | yield y2 => exact r1.elim
    | yield x2 => cases y1 with
      | done y2 => exact r1.elim
      | yield y2 => exact Sim.list h l x2 y2 r1
theorem Sim.range {R : β → β → Prop} {f k : Nat → β → StateT SortSt Sem (ForInStep β)} {x y : β} {a b : Nat} (r : R x y) (h : ∀ i x y, R x y → Sim G (RF R) (f i x) (k i y)) : Sim G R (forIn [a:b] x f) (forIn [a:b] y k) := by
  rw [Std.Legacy.Range.forIn_eq_forIn_range', Std.Legacy.Range.forIn_eq_forIn_range']
  exact Sim.list h _ x y r
theorem Sim.get : Sim G (RSt G) MonadState.get MonadState.get := by
  intro a b hs K p E hk
  have hk' : wp (model G.prog G.w) G.Γ ((MonadState.get : StateT SortSt Sem SortSt).run a) K No p G.s := hk
  have e : (MonadState.get : StateT SortSt Sem SortSt).run a = Pure.pure (a, a) := rfl
  rw [e, wp_pure'] at hk'
  exact wpS_get ⟨a, a, p, hs, hs, hk'⟩
theorem Sim.modify {f k : SortSt → SortSt} (h : ∀ a b, RSt G a b → RSt G (f a) (k b)) : Sim G Eq (modify f) (modify k) := by
  intro a b hs K p E hk
  have e : (_root_.modify f : StateT SortSt Sem PUnit).run a = Pure.pure (⟨⟩, f a) := rfl
  rw [e, wp_pure'] at hk
  exact wpS_modify ⟨⟨⟩, f a, p, rfl, h a b hs, hk⟩
theorem Sim.set {x y : SortSt} (h : RSt G x y) : Sim G Eq (set x) (set y) := by
  intro a b hs K p E hk
  have e : (MonadStateOf.set x : StateT SortSt Sem PUnit).run a = Pure.pure (⟨⟩, x) := rfl
  have hk' : wp (model G.prog G.w) G.Γ ((MonadStateOf.set x : StateT SortSt Sem PUnit).run a) K No p G.s := hk
  rw [e, wp_pure'] at hk'
  exact wpS_set ⟨⟨⟩, x, p, rfl, h, hk'⟩
theorem Sim.rule (tag : String) : Sim G Eq (liftM (rule tag) : StateT SortSt Sem Unit) (liftM (rule tag)) := by
  intro a b hs K p E hk
  have e : (liftM (PySem.rule tag) : StateT SortSt Sem Unit).run a = PySem.rule tag >>= fun x => Pure.pure (x, a) := rfl
  rw [e, wp_bind'] at hk
  have hk2 : wp (model G.prog G.w) G.Γ (PySem.rule tag) (fun x p' s' => K (x, a) p' s') No p G.s := by
    refine Sem.wp_mono _ _ _ (fun x p' s' h => ?_) (fun _ _ _ h => h) _ _ hk
    rwa [wp_pure'] at h
  have hk3 : K ((), a) p G.s := hk2
  exact wpS_lift (wpAny_rule ⟨rfl, (), a, p, rfl, hs, hk3⟩)
theorem Sim.elem {x y : Array Keyed} (h : RA G x y) (i : Nat) : Sim G (RK G) (elem' x i) (elem' y i) := by
  obtain ⟨rfl, hd⟩ := h
  intro a b hs K p E hk
  rw [elem'_eq] at hk ⊢
  rw [Array.getElem?_map]
  cases hx : x[i]? with
  | none => rw [hx] at hk; exact hk.elim
  | some q =>
    rw [hx] at hk
    exact Sim.pure (R := RK G) ⟨rfl, hd q (Array.mem_of_getElem? hx)⟩ a b hs K p E hk
theorem Sim.lt {p q p2 q2 : Keyed} (hp : RK G p p2) (hq : RK G q q2) : Sim G Eq (lt' p q) (lt' p2 q2) := by
  obtain ⟨rfl, dp⟩ := hp
  obtain ⟨rfl, dq⟩ := hq
  intro a b hs K po E hk
  rw [lt'_eq] at hk ⊢
  rw [StateT.run_bind, wp_bind'] at hk
  rw [StateT.run_get, wp_pure'] at hk
  rw [StateT.run_bind, wp_bind'] at hk
  rw [hs.k1] at hk
  have e2 : ∀ m : Sem (Except Value Bool), (liftM m : StateT SortSt Sem (Except Value Bool)).run a = m >>= fun x => Pure.pure (x, a) := fun _ => rfl
  have hk2 := hk
  rw [e2, wp_bind', wp_attempt] at hk2
  obtain ⟨t1, n1⟩ := G.isNum p dp
  obtain ⟨t2, n2⟩ := G.isNum q dq
  have kit : wpAny (model G.prog G.w) G.A (keyLt' oneType' p.1 q.1) (fun r s' => s' = G.s ∧ r = decide (G.num p < G.num q)) (fun _ _ => False) G.s := by
    rw [keyLt'_oneType, n1, n2]
    exact oneLt_int ⟨rfl, rfl⟩
  rcases wp_meet _ _ _ _ _ _ _ _ _ hk2 (kit G.Γ po G.hΓ) with ⟨r, p1, s1, c1, c2, c3⟩ | ⟨_, _, _, _, c⟩
  · subst c2 c3
    rw [wp_pure'] at c1
    refine wpS_bind (wpS_get ?_)
    rw [hs.k2]
    refine wpS_bind (wpS_lift (wpAny_attempt (wpAny_mono (G.cmp p q dp dq) (fun r s' c => ?_) fun _ _ c => c.elim)))
    obtain ⟨rfl, rfl⟩ := c
    refine ⟨rfl, ?_⟩
    exact Sim.pure (R := Eq) rfl a b hs K p1 E c1
  · exact c.elim
theorem Sim.ltAt (i j : Nat) : Sim G Eq (ltAt' i j) (ltAt' i j) := by
  rw [ltAt'_eq]
  refine Sim.get.bind fun x y h => ?_
  refine (Sim.elem h.arr i).bind fun p q hp => ?_
  exact (Sim.elem h.arr j).bind fun p2 q2 hq => Sim.lt hp hq
end
end Zr
set_option Elab.async false
set_option linter.all false
set_option maxRecDepth 100000
set_option maxHeartbeats 4000000
set_option autoImplicit false
namespace Zr
open PySem PyProof.Rows
open PySem.Sem (wp wp_bind' wp_pure' wp_attempt)
section
variable {G : Gm}
theorem RA.swaps {a b : Array Keyed} (h : RA G a b) : ∀ (l : List Nat) (p q : Nat → Nat), RA G (l.foldl (fun a k => a.swapIfInBounds (p k) (q k)) a) (l.foldl (fun a k => a.swapIfInBounds (p k) (q k)) b) := by
  intro l
  induction l generalizing a b with
  | nil => exact fun _ _ => h
  | cons x l ih =>
    intro p q
    refine ih ?_ p q
    obtain ⟨rfl, hd⟩ := h
    refine ⟨?_, fun y hy => hd y ?_⟩
    · apply Array.ext_getElem?
      intro k
      simp only [Array.getElem?_map]
      by_cases h1 : p x < a.size <;> by_cases h2 : q x < a.size
      · rw [getElem?_swapIB h1 h2, getElem?_swapIB (by simpa using h1) (by simpa using h2)]
        simp only [Array.getElem?_map]
        repeat' split
        all_goals rfl
      all_goals
        rw [Array.swapIfInBounds_def, Array.swapIfInBounds_def]
        simp [h1, h2]
    · have pm := swapIB_perm a (p x) (q x)
      exact (Array.Perm.mem_iff pm).mp hy
theorem RSt.arr_set {x y : SortSt} (h : RSt G x y) {a b : Array Keyed} (r : RA G a b) : RSt G (setArr x a) (setArr y b) := ⟨h.k1, h.k2, r, h.pend, h.gal, h.f1, h.f2⟩
theorem sim_rev (i j : Nat) : Sim G Eq (reverseSlice' i j) (reverseSlice' i j) := by
  rw [reverseSlice'_eq]
  exact Sim.modify fun a b h => h.arr_set (h.arr.swaps _ _ _)
theorem sim_down (i j : Nat) : Sim G Eq (moveDown' i j) (moveDown' i j) := by
  rw [moveDown'_eq]
  exact Sim.modify fun a b h => h.arr_set (h.arr.swaps _ _ _)
theorem RF.refl {β : Type} (x : ForInStep β) : RF Eq x x := by cases x <;> rfl
theorem sim_pureF {β : Type} (x : ForInStep β) : Sim G (RF Eq) (pure x) (pure x) := Sim.pure (RF.refl x)
theorem Sim.bindE {α β : Type} {S : β → β → Prop} {t : StateT SortSt Sem α} {f k : α → StateT SortSt Sem β} (h : Sim G Eq t t) (h2 : ∀ x, Sim G S (f x) (k x)) : Sim G S (t >>= f) (t >>= k) :=
  h.bind fun x y e => by subst e; exact h2 x
theorem Sim.rangeE {β : Type} {f : Nat → β → StateT SortSt Sem (ForInStep β)} {x : β} {a b : Nat} (h : ∀ i x, Sim G (RF Eq) (f i x) (f i x)) : Sim G Eq (forIn [a:b] x f) (forIn [a:b] x f) :=
  Sim.range rfl fun i x y e => by subst e; exact h i x
theorem sim_count (lo n : Nat) : Sim G Eq (countRun' lo n) (countRun' lo n) := by
  rw [countRun'_eq]
  repeat' first
    | exact Sim.pure rfl
    | exact sim_pureF _
    | exact sim_rev _ _
    | exact Sim.rule _
    | exact Sim.ltAt _ _
    | refine Sim.ite (fun _ => ?_) (fun _ => ?_)
    | (refine Sim.bindE (Sim.rangeE fun i x => ?_) fun x => ?_)
    | (refine Sim.bindE ?_ fun x => ?_)
    | (split)
    | dsimp only
theorem sim_bin (lo n ok : Nat) : Sim G Eq (binarySort' lo n ok) (binarySort' lo n ok) := by
  rw [binarySort'_eq]
  repeat' first
    | exact Sim.pure rfl
    | exact sim_pureF _
    | exact sim_down _ _
    | exact Sim.rule _
    | exact Sim.ltAt _ _
    | refine Sim.ite (fun _ => ?_) (fun _ => ?_)
    | (refine Sim.bindE (Sim.rangeE fun i x => ?_) fun x => ?_)
    | (refine Sim.bindE ?_ fun x => ?_)
    | (split)
    | dsimp only
end
end Zr
set_option Elab.async false
set_option linter.all false
set_option maxRecDepth 100000
set_option maxHeartbeats 4000000
set_option autoImplicit false
namespace Zr
open PySem PyProof.Rows
open PySem.Sem (wp wp_bind' wp_pure' wp_attempt)
section
variable {G : Gm}
theorem Sim.bindQ {α β : Type} {S : β → β → Prop} {t u : StateT SortSt Sem α} {f k : α → StateT SortSt Sem β} (h : Sim G Eq t u) (h2 : ∀ x, Sim G S (f x) (k x)) : Sim G S (t >>= f) (u >>= k) :=
  h.bind fun x y e => by subst e; exact h2 x
theorem Sim.rangeQ {β : Type} {f k : Nat → β → StateT SortSt Sem (ForInStep β)} {x : β} {a b : Nat} (h : ∀ i x, Sim G (RF Eq) (f i x) (k i x)) : Sim G Eq (forIn [a:b] x f) (forIn [a:b] x k) :=
  Sim.range rfl fun i x y e => by subst e; exact h i x
theorem sim_beyond {left : Bool} {k k2 : Keyed} {a b : Array Keyed} (hk : RK G k k2) (ha : RA G a b) (base i : Nat) : Sim G Eq (beyond' left k a base i) (beyond' left k2 b base i) := by
  unfold beyond'
  refine (Sim.elem ha _).bind fun x y h => ?_
  refine Sim.ite (fun _ => Sim.lt h hk) (fun _ => ?_)
  refine (Sim.lt hk h).bind fun x y e => ?_
  subst e
  exact Sim.pure rfl
theorem sim_gallop {left : Bool} {k k2 : Keyed} {a b : Array Keyed} (hk : RK G k k2) (ha : RA G a b) (base n hint : Nat) : Sim G Eq (gallop' left k a base n hint) (gallop' left k2 b base n hint) := by
  rw [gallop'_eq, gallop'_eq]
  repeat' first
    | exact Sim.pure rfl
    | exact sim_pureF _
    | exact sim_beyond hk ha _ _
    | refine Sim.ite (fun _ => ?_) (fun _ => ?_)
    | (refine Sim.bindQ (Sim.rangeQ fun i x => ?_) fun x => ?_)
    | (refine Sim.bindQ ?_ fun x => ?_)
    | (split)
    | exact trivial
    | dsimp only
def RO {α : Type} (R : α → α → Prop) : Option α → Option α → Prop
  | none, none => True
  | some x, some y => R x y
  | _, _ => False
def RP {α β : Type} (R : α → α → Prop) (S : β → β → Prop) (x y : α × β) : Prop := R x.1 y.1 ∧ S x.2 y.2
theorem RA.size {a b : Array Keyed} (h : RA G a b) : b.size = a.size := by rw [h.1, Array.size_map]
theorem RA.push {a b : Array Keyed} {p q : Keyed} (h : RA G a b) (k : RK G p q) : RA G (a.push p) (b.push q) := by
  obtain ⟨rfl, h⟩ := h
  obtain ⟨rfl, k⟩ := k
  refine ⟨by rw [Array.map_push], fun x hx => ?_⟩
  rcases Array.mem_push.mp hx with c | c
  · exact h x c
  · rw [c]; exact k
theorem RA.app {a b c d : Array Keyed} (h : RA G a b) (k : RA G c d) : RA G (a ++ c) (b ++ d) := by
  obtain ⟨rfl, h⟩ := h
  obtain ⟨rfl, k⟩ := k
  refine ⟨by rw [Array.map_append], fun x hx => ?_⟩
  rcases Array.mem_append.mp hx with c | c
  · exact h x c
  · exact k x c
theorem RA.ext {a b : Array Keyed} (h : RA G a b) (i j : Nat) : RA G (a.extract i j) (b.extract i j) := by
  obtain ⟨rfl, h⟩ := h
  refine ⟨by simp, fun x hx => h x ?_⟩
  rw [Array.mem_iff_getElem?] at hx ⊢
  obtain ⟨k, hk⟩ := hx
  rw [Array.getElem?_extract] at hk
  split at hk
  · exact ⟨_, hk⟩
  · cases hk
theorem RA.rev {a b : Array Keyed} (h : RA G a b) : RA G a.reverse b.reverse := by
  obtain ⟨rfl, h⟩ := h
  exact ⟨by simp, fun x hx => h x (Array.mem_reverse.mp hx)⟩
theorem RA.one {p q : Keyed} (k : RK G p q) : RA G #[p] #[q] := by
  obtain ⟨rfl, k⟩ := k
  exact ⟨by simp, fun x hx => by rw [Array.mem_singleton] at hx; rw [hx]; exact k⟩
theorem sim_min (n : Nat) : Sim G Eq (setMinGallop' n) (setMinGallop' n) := by
  rw [setMinGallop'_eq]
  exact Sim.modify fun a b h => ⟨h.k1, h.k2, h.arr, h.pend, rfl, h.f1, h.f2⟩
abbrev RL (G : Gm) {ν : Type} : (Option (Array Keyed) × Array Keyed × ν) → (Option (Array Keyed) × Array Keyed × ν) → Prop := RP (RO (RA G)) (RP (RA G) Eq)
theorem Sim.loop {ν : Type} {f k : Nat → (Option (Array Keyed) × Array Keyed × ν) → StateT SortSt Sem (ForInStep (Option (Array Keyed) × Array Keyed × ν))} {o o2 : Array Keyed} {n : ν} {a b : Nat} (ho : RA G o o2)
    (h : ∀ i r1 r2 o1 o2 n, RA G o1 o2 → Sim G (RF (RL G)) (f i (r1, o1, n)) (k i (r2, o2, n))) : Sim G (RL G) (forIn [a:b] (none, o, n) f) (forIn [a:b] (none, o2, n) k) := by
  refine Sim.range ⟨trivial, ho, rfl⟩ fun i x y e => ?_
  obtain ⟨r1, o1, n1⟩ := x
  obtain ⟨r2, o2, n2⟩ := y
  obtain ⟨e1, e2, e3⟩ := e
  dsimp only at e2 e3
  subst e3
  exact h i r1 r2 o1 o2 n1 e2
theorem Sim.bindL {ν β : Type} {S : β → β → Prop} {t u : StateT SortSt Sem (Option (Array Keyed) × Array Keyed × ν)} {f k : (Option (Array Keyed) × Array Keyed × ν) → StateT SortSt Sem β} (h : Sim G (RL G) t u)
    (h2 : ∀ o1 o2 n, RA G o1 o2 → Sim G S (f (none, o1, n)) (k (none, o2, n))) (h3 : ∀ A B o1 o2 n, RA G A B → RA G o1 o2 → Sim G S (f (some A, o1, n)) (k (some B, o2, n))) : Sim G S (t >>= f) (u >>= k) := by
  refine h.bind fun x y e => ?_
  obtain ⟨r1, o1, n1⟩ := x
  obtain ⟨r2, o2, n2⟩ := y
  obtain ⟨e1, e2, e3⟩ := e
  dsimp only at e1 e2 e3
  subst e3
  cases r1 with
  | none => cases r2 with
    | none => exact h2 _ _ _ e2
    | some _ => exact e1.elim
  | some A => cases r2 with
    | none => exact e1.elim
    | some B => exact h3 _ _ _ _ _ e1 e2
theorem Sim.no {α : Type} {R : α → α → Prop} {what : String} {u : StateT SortSt Sem α} : Sim G R (liftM (unsupported what : Sem α)) u := by
  intro a b hs K p E hk
  exact hk.elim
theorem sim_lo {a b c d : Array Keyed} (ha : RA G a c) (hb : RA G b d) : Sim G (RA G) (mergeLo' a b) (mergeLo' c d) := by
  rw [mergeLo'_eq, mergeLo'_eq]
  have sa := ha.size
  have sb := hb.size
  dsimp only
  rw [sa, sb]
  refine Sim.bindQ (Sim.rule _) fun _ => ?_
  refine (Sim.elem hb _).bind fun p q h => ?_
  refine Sim.ite (fun _ => Sim.pure ?_) (fun _ => ?_)
  · exact ((RA.one h).app (ha.ext _ _)).app (hb.ext _ _)
  refine Sim.ite (fun _ => Sim.pure ?_) (fun _ => ?_)
  · exact ((RA.one h).app (hb.ext _ _)).app (ha.ext _ _)
  refine Sim.get.bind fun x y hxy => ?_
  rw [hxy.gal]
  have h1 := RA.one h
  repeat' first
    | assumption
    | exact trivial
    | dsimp only
    | refine Sim.pure ⟨?_, ?_, rfl⟩
    | refine Sim.pure (R := RA G) ?_
    | refine RA.push ?_ ?_
    | refine RA.app ?_ ?_
    | refine RA.ext ?_ _ _
    | refine RA.rev ?_
    | refine Sim.ite (fun _ => ?_) (fun _ => ?_)
    | refine Sim.bindQ (Sim.rule _) fun _ => ?_
    | refine Sim.bindQ (sim_min _) fun _ => ?_
    | refine Sim.bind (Sim.elem ha _) fun p q h => ?_
    | refine Sim.bind (Sim.elem hb _) fun p q h => ?_
    | refine Sim.bindQ (Sim.lt (by assumption) (by assumption)) fun r => ?_
    | refine Sim.bindQ (sim_gallop (by assumption) ha _ _ _) fun r => ?_
    | refine Sim.bindQ (sim_gallop (by assumption) hb _ _ _) fun r => ?_
    | refine Sim.bindL (Sim.loop ?_ fun i r1 r2 o1 o2 n ho => ?_) (fun o1 o2 n ho => ?_) (fun A B o1 o2 n hA ho => ?_)
    | exact Sim.no
    | split
end
end Zr
set_option Elab.async false
set_option linter.all false
set_option maxRecDepth 100000
set_option maxHeartbeats 800000
set_option autoImplicit false
namespace Zr
open PySem PyProof.Rows
open PySem.Sem (wp wp_bind' wp_pure' wp_attempt)
section
variable {G : Gm}
abbrev RM (G : Gm) {ν : Type} : (Option (Array Keyed) × Nat × Nat × Array Keyed × ν) → (Option (Array Keyed) × Nat × Nat × Array Keyed × ν) → Prop := RP (RO (RA G)) (RP Eq (RP Eq (RP (RA G) Eq)))
theorem Sim.loopM {ν : Type} {f k : Nat → (Option (Array Keyed) × Nat × Nat × Array Keyed × ν) → StateT SortSt Sem (ForInStep (Option (Array Keyed) × Nat × Nat × Array Keyed × ν))} {o o2 : Array Keyed} {n : ν} {u v a b : Nat} (ho : RA G o o2)
    (h : ∀ i r1 r2 u v o1 o2 n, RA G o1 o2 → Sim G (RF (RM G)) (f i (r1, u, v, o1, n)) (k i (r2, u, v, o2, n))) : Sim G (RM G) (forIn [a:b] (none, u, v, o, n) f) (forIn [a:b] (none, u, v, o2, n) k) := by
  refine Sim.range ⟨trivial, rfl, rfl, ho, rfl⟩ fun i x y e => ?_
  obtain ⟨r1, u1, v1, o1, n1⟩ := x
  obtain ⟨r2, u2, v2, o2, n2⟩ := y
  obtain ⟨e1, e4, e5, e2, e3⟩ := e
  dsimp only at e2 e3 e4 e5
  subst e3 e4 e5
  exact h i r1 r2 u1 v1 o1 o2 n1 e2
theorem Sim.bindM {ν β : Type} {S : β → β → Prop} {t u : StateT SortSt Sem (Option (Array Keyed) × Nat × Nat × Array Keyed × ν)} {f k : (Option (Array Keyed) × Nat × Nat × Array Keyed × ν) → StateT SortSt Sem β} (h : Sim G (RM G) t u)
    (h2 : ∀ u v o1 o2 n, RA G o1 o2 → Sim G S (f (none, u, v, o1, n)) (k (none, u, v, o2, n))) (h3 : ∀ A B u v o1 o2 n, RA G A B → RA G o1 o2 → Sim G S (f (some A, u, v, o1, n)) (k (some B, u, v, o2, n))) : Sim G S (t >>= f) (u >>= k) := by
  refine h.bind fun x y e => ?_
  obtain ⟨r1, u1, v1, o1, n1⟩ := x
  obtain ⟨r2, u2, v2, o2, n2⟩ := y
  obtain ⟨e1, e4, e5, e2, e3⟩ := e
  dsimp only at e1 e2 e3 e4 e5
  subst e3 e4 e5
  cases r1 with
  | none => cases r2 with
    | none => exact h2 _ _ _ _ _ e2
    | some _ => exact e1.elim
  | some A => cases r2 with
    | none => exact e1.elim
    | some B => exact h3 _ _ _ _ _ _ _ e1 e2
theorem rfD {ν : Type} {A B : Array Keyed} {u v : Nat} {o1 o2 : Array Keyed} {n : ν} (h1 : RA G A B) (h2 : RA G o1 o2) : RF (RM G) (ForInStep.done (some A, u, v, o1, n)) (ForInStep.done (some B, u, v, o2, n)) := ⟨h1, rfl, rfl, h2, rfl⟩
theorem rfDn {ν : Type} {u v : Nat} {o1 o2 : Array Keyed} {n : ν} (h2 : RA G o1 o2) : RF (RM G) (ForInStep.done (none, u, v, o1, n)) (ForInStep.done (none, u, v, o2, n)) := ⟨trivial, rfl, rfl, h2, rfl⟩
theorem rfYn {ν : Type} {u v : Nat} {o1 o2 : Array Keyed} {n : ν} (h2 : RA G o1 o2) : RF (RM G) (ForInStep.yield (none, u, v, o1, n)) (ForInStep.yield (none, u, v, o2, n)) := ⟨trivial, rfl, rfl, h2, rfl⟩
theorem sim_hi {a b c d : Array Keyed} (ha : RA G a c) (hb : RA G b d) : Sim G (RA G) (mergeHi' a b) (mergeHi' c d) := by
  rw [mergeHi'_eq, mergeHi'_eq]
  have sa := ha.size
  have sb := hb.size
  dsimp only
  rw [sa, sb]
  refine Sim.bindQ (Sim.rule _) fun _ => ?_
  refine (Sim.elem ha _).bind fun p q h => ?_
  refine Sim.ite (fun _ => Sim.pure ?_) (fun _ => ?_)
  · exact ((ha.ext _ _).app (hb.ext _ _)).app (RA.one h).rev
  refine Sim.ite (fun _ => Sim.pure ?_) (fun _ => ?_)
  · exact ((hb.ext _ _).app (ha.ext _ _)).app (RA.one h).rev
  refine Sim.get.bind fun x y hxy => ?_
  rw [hxy.gal]
  have h1 := RA.one h
  repeat' first
    | with_reducible refine Sim.ite (fun _ => ?_) (fun _ => ?_)
    | with_reducible refine Sim.bind (Sim.elem ha _) fun p q h => ?_
    | with_reducible refine Sim.bind (Sim.elem hb _) fun p q h => ?_
    | with_reducible refine Sim.bindQ (Sim.rule _) fun _ => ?_
    | with_reducible refine Sim.bindQ (sim_min _) fun _ => ?_
    | with_reducible refine Sim.bindQ (Sim.lt (by assumption) (by assumption)) fun r => ?_
    | with_reducible refine Sim.bindQ (sim_gallop (by assumption) ha _ _ _) fun r => ?_
    | with_reducible refine Sim.bindQ (sim_gallop (by assumption) hb _ _ _) fun r => ?_
    | (with_reducible refine Sim.bindM (Sim.loopM ?_ fun i r1 r2 u v o1 o2 n ho => ?_) (fun u v o1 o2 n ho => ?_) (fun A B u v o1 o2 n hA ho => ?_)) <;> try dsimp only
    | with_reducible refine Sim.pure ?_
    | with_reducible assumption
    | with_reducible refine RA.push ?_ ?_
    | with_reducible refine RA.app ?_ ?_
    | with_reducible refine RA.ext ?_ _ _
    | with_reducible refine RA.rev ?_
    | with_reducible exact Sim.no
    | (with_reducible refine rfD ?_ ?_)
    | (with_reducible refine rfDn ?_)
    | (with_reducible refine rfYn ?_)
    | split
end
end Zr
set_option Elab.async false
set_option linter.all false
set_option maxRecDepth 100000
set_option maxHeartbeats 2000000
set_option autoImplicit false
namespace Zr
open PySem PyProof.Rows
open PySem.Sem (wp wp_bind' wp_pure' wp_attempt)
section
variable {G : Gm}
theorem RSt.pend_set {x y : SortSt} (h : RSt G x y) (p : Array (Nat × Nat × Nat)) : RSt G (setPending x p) (setPending y p) := ⟨h.k1, h.k2, h.arr, rfl, h.gal, h.f1, h.f2⟩
theorem RA.put {a b : Array Keyed} (sa : Nat) : ∀ (l : List (Keyed × Nat)) (m : List (Keyed × Nat)), m = l.map (fun q => (G.g q.1, q.2)) → (∀ q ∈ l, G.D q.1) → RA G a b →
    RA G (l.foldl (fun a (p, j) => a.setIfInBounds (sa + j) p) a) (m.foldl (fun a (p, j) => a.setIfInBounds (sa + j) p) b) := by
  intro l
  induction l generalizing a b with
  | nil => rintro m rfl _ h; exact h
  | cons x l ih =>
    rintro m rfl hl h
    rw [List.map_cons, List.foldl_cons, List.foldl_cons]
    refine ih _ rfl (fun q hq => hl q (List.mem_cons_of_mem _ hq)) ?_
    obtain ⟨rfl, hd⟩ := h
    refine ⟨by simp, fun y hy => ?_⟩
    rw [Array.mem_iff_getElem?] at hy
    obtain ⟨k, hk⟩ := hy
    rw [Array.getElem?_setIfInBounds] at hk
    split at hk
    · split at hk
      · cases hk; exact hl x List.mem_cons_self
      · cases hk
    · exact hd y (Array.mem_of_getElem? hk)
theorem sim_at (i : Nat) : Sim G Eq (mergeAt' i) (mergeAt' i) := by
  rw [mergeAt'_eq]
  refine Sim.get.bind fun x y h => ?_
  rw [h.pend]
  split
  · rename_i sa na power sb nb pb e
    refine Sim.bindQ (Sim.set (h.pend_set _)) fun _ => ?_
    refine Sim.bind (Sim.elem h.arr _) fun p q hp => ?_
    refine Sim.bindQ (sim_gallop hp h.arr _ _ _) fun r => ?_
    split
    · rename_i k
      dsimp only
      refine Sim.ite (fun _ => Sim.pure rfl) (fun _ => ?_)
      refine Sim.bind (Sim.elem h.arr _) fun p q hp => ?_
      refine Sim.bindQ (sim_gallop hp h.arr _ _ _) fun r => ?_
      split
      · rename_i nb2
        refine Sim.ite (fun _ => Sim.pure rfl) (fun _ => ?_)
        have fin : ∀ m1 m2, RA G m1 m2 → Sim G Eq (do
            modify fun s => setArr s (m1.toList.zipIdx.foldl (fun a (p, j) => a.setIfInBounds (sa + k + j) p) (arrOf s))
            return (failedOf (← get)).isNone) (do
            modify fun s => setArr s (m2.toList.zipIdx.foldl (fun a (p, j) => a.setIfInBounds (sa + k + j) p) (arrOf s))
            return (failedOf (← get)).isNone) := by
          intro m1 m2 hm
          refine Sim.bindQ (Sim.modify fun a b h => h.arr_set ?_) fun _ => ?_
          · refine RA.put _ _ _ ?_ (fun q hq => ?_) h.arr
            · rw [hm.1, Array.toList_map, List.zipIdx_map]
              rfl
            · have := List.mem_zipIdx hq
              exact hm.2 _ (by obtain ⟨_, _, e⟩ := this; rw [e]; simp)
          · refine Sim.get.bind fun x y h => ?_
            exact Sim.pure (by rw [h.f1, h.f2])
        refine Sim.ite (fun _ => ?_) (fun _ => ?_)
        · exact (sim_lo (h.arr.ext _ _) (h.arr.ext _ _)).bind fin
        · exact (sim_hi (h.arr.ext _ _) (h.arr.ext _ _)).bind fin
      · exact Sim.pure rfl
    · exact Sim.pure rfl
  · exact Sim.no
theorem sim_pend {f : SortSt → Array (Nat × Nat × Nat)} (hf : ∀ a b, RSt G a b → f b = f a) : Sim G Eq (modify fun s => setPending s (f s)) (modify fun s => setPending s (f s)) :=
  Sim.modify fun a b h => by rw [hf a b h]; exact h.pend_set _
theorem sim_sort : Sim G Eq sortRuns' sortRuns' := by
  rw [sortRuns'_eq]
  refine Sim.get.bind fun x y h => ?_
  rw [h.arr.size]
  dsimp only
  repeat' first
    | exact Sim.pure rfl
    | exact sim_pureF _
    | with_reducible refine Sim.ite (fun _ => ?_) (fun _ => ?_)
    | with_reducible refine Sim.bindQ (Sim.rule _) fun _ => ?_
    | with_reducible refine Sim.bindQ (sim_count _ _) fun r => ?_
    | with_reducible refine Sim.bindQ (sim_bin _ _ _) fun r => ?_
    | with_reducible refine Sim.bindQ (sim_at _) fun r => ?_
    | refine Sim.bindQ (sim_pend fun a b h => by (try dsimp only); rw [h.pend]) fun _ => ?_
    | (with_reducible refine Sim.bind Sim.get fun u v hg => ?_); rw [hg.pend]
    | (refine Sim.bindQ (Sim.rangeQ fun i c => ?_) fun c => ?_) <;> try dsimp only
    | split
end
end Zr
set_option Elab.async false
set_option linter.all false
set_option maxRecDepth 100000
set_option maxHeartbeats 2000000
set_option autoImplicit false
namespace Zr
open PySem PyProof.Rows
open PySem.Sem (wp wp_bind' wp_pure' wp_attempt)
section
variable {prog : Program} {w : World} {A : Around} {E : Value → Shared → Prop} {s : Shared}
/-- the runs of a sort of any length: in order by any rank that the comparison follows -/
theorem runs_any {κ : SortKind} {vs : List Value} {r : Value → Int} {Q : Unit → SortSt → Prop} (h2 : 2 ≤ vs.length)
    (C : ∀ x ∈ vs, ∀ y ∈ vs, ∀ (Q : Bool → Shared → Prop) (E : Value → Shared → Prop), Q (decide (r x < r y)) s → wpAny (model prog w) A (keyLt' κ x y) Q E s)
    (h : ∀ st' : SortSt, (arrOf st').Perm (vs.toArray.zip vs.toArray) → failedOf st' = none → (∀ (i j : Nat) (hi : i < (arrOf st').size) (hj : j < (arrOf st').size), i ≤ j → r ((arrOf st')[i]).1 ≤ r ((arrOf st')[j]).1) → Q () st') :
    wpS (model prog w) A E s sortRuns' Q (SortSt.mk' κ (vs.toArray.zip vs.toArray) #[] 7 none) := by
  intro Γ p hΓ
  let f : Value → Keyed := fun v => (.int (r v) 0, v)
  let G : Gm := Gm.mk prog w A s Γ hΓ κ (fun q => (q.2, q.2)) (fun q => r q.2) (fun q => q.1 = .int (r q.2) 0 ∧ q.2 ∈ vs) (fun q hq => ⟨0, hq.1⟩) (fun p q hp hq => C p.2 hp.2 q.2 hq.2 _ _ ⟨rfl, rfl⟩)
  let a0 : Array Keyed := vs.toArray.map f
  have hz : a0.size = vs.length := by simp [a0]
  have e0 : vs.toArray.zip vs.toArray = a0.map G.g := by
    apply Array.ext'
    have key : ∀ l : List Value, l.zip l = l.map fun v => (v, v) := by
      intro l
      induction l with
      | nil => rfl
      | cons x l ih => rw [List.zip_cons_cons, ih, List.map_cons]
    rw [← PyProof.Rows.pairsOf, pairsOf_toList, key]
    simp [a0, G, f]
  have hD : ∀ q ∈ a0, G.D q := by
    intro q hq
    obtain ⟨v, hv, rfl⟩ := Array.mem_map.mp hq
    exact ⟨rfl, by simpa using hv⟩
  have hR : RSt G (SortSt.mk' oneType' a0 #[] 7 none) (SortSt.mk' κ (vs.toArray.zip vs.toArray) #[] 7 none) := ⟨rfl, rfl, ⟨e0, hD⟩, rfl, rfl, rfl, rfl⟩
  have kit : wpS (model prog w) A (fun _ _ => False) s sortRuns' (fun _ a1 => (arrOf a1).Perm a0 ∧ failedOf a1 = none ∧ SortedToK intKind (arrOf a1) a0.size) (SortSt.mk' oneType' a0 #[] 7 none) :=
    wpS_sortRunsAny (a₀ := a0) intKind_oneLt (fun q hq => by
      obtain ⟨v, hv, rfl⟩ := Array.mem_map.mp (Array.mem_toList_iff.mp hq)
      exact ⟨r v, rfl⟩) ⟨Array.Perm.refl _, rfl, rfl⟩ rfl (by omega) fun a1 x1 x2 x3 => ⟨x1, x2, x3⟩
  have sim := sim_sort (G := G) _ _ hR _ p E (kit Γ p hΓ) Γ p hΓ
  refine Sem.wp_mono _ _ _ (fun x p' s' hx => ?_) (fun _ _ _ h => h) _ _ sim
  obtain ⟨rfl, ⟨⟩, a1, p1, _, hs, _, pm, hf, srt⟩ := hx
  dsimp only at pm hf srt
  refine ⟨rfl, h _ ?_ hs.f2 ?_⟩
  · rw [hs.arr.1, e0]
    rw [Array.perm_iff_toList_perm, Array.toList_map, Array.toList_map]
    exact (Array.perm_iff_toList_perm.mp pm).map _
  · obtain ⟨x, b1⟩ := x
    obtain ⟨ea, hd⟩ := hs.arr
    dsimp only at ea ⊢
    intro i j hi hj hij
    have z : (arrOf b1).size = (arrOf a1).size := by rw [ea, Array.size_map]
    have q := srt i j hij (by rw [← pm.size_eq]; omega)
    rw [KK_int, KK_int] at q
    have q2 : K (arrOf a1) i ≤ K (arrOf a1) j := Int.not_lt.mp (of_decide_eq_false q)
    have hj1 : j < (arrOf a1).size := by omega
    have hi1 : i < (arrOf a1).size := by omega
    have at_ : ∀ (k : Nat) (hk : k < (arrOf a1).size) (hk2 : k < (arrOf b1).size), r ((arrOf b1)[k]).1 = K (arrOf a1) k := by
      intro k hk hk2
      have d := (hd _ (Array.getElem_mem hk)).1
      have e1 : (arrOf b1)[k] = G.g (arrOf a1)[k] := by simp only [ea, Array.getElem_map]
      rw [e1]
      unfold K
      rw [getElem?_pos (arrOf a1) k hk]
      dsimp only
      rw [d]
      rfl
    rw [at_ i hi1 hi, at_ j hj1 hj]
    exact q2
end
end Zr
set_option Elab.async false
set_option linter.all false
set_option maxRecDepth 100000
set_option maxHeartbeats 2000000
set_option autoImplicit false
namespace Zr
open PySem PySem.Calls PyProof.Rows
section
variable {prog : Program} {w : World} {A : Around} {E : Value → Shared → Prop} {s : Shared}
/-- list.sort of any length, in order by a rank that the comparison follows -/
theorem sort_any {r : Value → Int} {a : Addr} {vs : List Value} {n : Nat} {P : PySem.Fin → Shared → Prop} (ho : s.heap.get? a = some (seqObj "list" vs.toArray n)) (hz : vs.length < 4096)
    (hK : 2 ≤ vs.length → ∀ Q : SortKind → Shared → Prop, (∀ κ, TS.Cmp prog w A { s with heap := TS.midHeap s.heap a vs } κ (pairsOf vs) r → Q κ { s with heap := TS.midHeap s.heap a vs }) →
      wpAny (model prog w) A (keyKind' vs.toArray) Q E { s with heap := TS.midHeap s.heap a vs })
    (h : ∀ (ps : List (Value × Value)) (out : Array Value), out.toList = ps.map Prod.snd → ps.Perm (vs.zip vs) → ps.Pairwise (fun p q => r p.1 ≤ r q.1) → P (.done (.ret .none)) { s with heap := sortedHeap s.heap a vs out }) :
    wpAny (model prog w) A (Builtin.«list.sort» ⟨[.ref a], []⟩) P E s := by
  rcases Nat.lt_or_ge vs.length 64 with h64 | h64
  · exact SK.plain_sort ho h64 hK h
  have sz : vs.length ≤ sizeLine := by rw [sizeLine_eq]; omega
  have tz : vs.toArray.size = vs.length := List.size_toArray
  obtain ⟨e1, ho1⟩ : ∃ e1, (s.heap.update a (Obj.mapSeq fun _ => (#[] : Array Value))).get? a = some (seqObj "list" #[] e1) := ⟨_, get?_update_seq ho fun _ => #[]⟩
  have hm : (TS.midHeap s.heap a vs).get? a = some (seqObj "list" #[] e1) := Heap.get?_push_of_some _ (Heap.get?_push_of_some _ ho1)
  have cmp : ∀ κ, TS.Cmp prog w A { s with heap := TS.midHeap s.heap a vs } κ (pairsOf vs) r → ∀ x ∈ vs, ∀ y ∈ vs, ∀ (Q : Bool → Shared → Prop) (E : Value → Shared → Prop), Q (decide (r x < r y)) { s with heap := TS.midHeap s.heap a vs } →
      wpAny (model prog w) A (keyLt' κ x y) Q E { s with heap := TS.midHeap s.heap a vs } := by
    have pair : ∀ x ∈ vs, (x, x) ∈ (pairsOf vs).toList := fun x hx => by
      rw [pairsOf_toList]
      obtain ⟨i, hi⟩ := List.mem_iff_getElem?.mp hx
      exact List.mem_of_getElem? (i := i) (List.getElem?_zip_eq_some.mpr ⟨hi, hi⟩)
    exact fun κ C x hx y hy Q' E' q => C (x, x) (y, y) (pair x hx) (pair y hy) Q' E' q
  have last : ∀ st : SortSt, (arrOf st).Perm (vs.toArray.zip vs.toArray) → (∀ (i j : Nat) (hi : i < (arrOf st).size) (hj : j < (arrOf st).size), i ≤ j → r ((arrOf st)[i]).1 ≤ r ((arrOf st)[j]).1) →
      P (.done (.ret .none)) { s with heap := sortedHeap s.heap a vs ((arrOf st).map (·.2)) } := by
    intro st pm up
    refine h (arrOf st).toList _ Array.toList_map ?_ (List.pairwise_iff_getElem.mpr fun i j hi hj hij => ?_)
    · rw [← pairsOf_toList]; exact Array.perm_iff_toList_perm.mp pm
    · simp only [Array.getElem_toList]
      exact up i j _ _ (Nat.le_of_lt hij)
  have two : ¬ vs.toArray.size < 2 := by omega
  rw [list_sort_plain]
  refine wpAny_bind (listItems_at ho rfl (wpAny_bind (listUpdate_at ho rfl ?_ (by rw [tz]; exact sz) (Nat.zero_le _))))
  refine wpAny_bind (seqEpoch_at ho1 rfl (wpAny_bind (wpAny_newTuple ?_ sz)))
  refine wpAny_bind (wpAny_newList (wpAny_holding ?_) (Nat.zero_le _))
  show wpAny (model prog w) A _ P E { s with heap := TS.midHeap s.heap a vs }
  try dsimp only
  rw [if_neg two, if_neg two]
  refine wpAny_bind (hK (by omega) _ fun κ C => wpAny_bind ?_)
  have run : wpS (model prog w) A E { s with heap := TS.midHeap s.heap a vs } sortRuns' (fun _ st' => (arrOf st').Perm (vs.toArray.zip vs.toArray) ∧ failedOf st' = none ∧
      ∀ (i j : Nat) (hi : i < (arrOf st').size) (hj : j < (arrOf st').size), i ≤ j → r ((arrOf st')[i]).1 ≤ r ((arrOf st')[j]).1) (SortSt.mk' κ (vs.toArray.zip vs.toArray) #[] 7 none) :=
    runs_any (by omega) (cmp κ C) fun st x1 x2 x3 => ⟨x1, x2, x3⟩
  unfold wpS at run
  refine wpAny_mono run (fun x s' q => ?_) fun _ _ e => e
  obtain ⟨⟨⟩, st⟩ := x
  obtain ⟨rfl, pm, hf, up⟩ := q
  dsimp only at pm hf up ⊢
  have szo : ((arrOf st).map (·.2)).size ≤ sizeLine + 1 := by
    rw [Array.size_map, pm.size_eq]
    have e : (vs.toArray.zip vs.toArray).size = vs.length := pairsOf_size vs
    omega
  refine wpAny_bind (seqEpoch_at hm rfl (wpAny_bind (listUpdate_at hm rfl ?_ (Nat.zero_le _) szo)))
  rw [hf]
  simp only [bne_self_eq_false, Bool.false_eq_true, if_false]
  exact wpAny_pure (last st pm up)
end
end Zr
set_option Elab.async false
set_option linter.all false
set_option maxRecDepth 100000
set_option maxHeartbeats 4000000
set_option autoImplicit false
namespace Wr
open PySem PySem.Spec PySem.SeqAt PyProof.Rows L2
mutual
def klt : NestedKey → NestedKey → Bool
  | .num a, .num b => decide (a < b)
  | .tup as, .tup bs => klts as bs
  | _, _ => false
def klts : List NestedKey → List NestedKey → Bool
  | [], [] => false
  | [], _ :: _ => true
  | _ :: _, [] => false
  | a :: as, b :: bs => if NestedKey.beq a b then klts as bs else klt a b
end
/-- all ints d levels down -/
def UD : Nat → NestedKey → Bool
  | 0, .num _ => true
  | d + 1, .tup ks => ks.all (UD d)
  | _, _ => false
theorem beq_iff (a b : NestedKey) : NestedKey.beq a b = true ↔ a = b := ⟨NestedKey.eq_of_beq a b, fun e => e ▸ NestedKey.beq_self a⟩
theorem UD.tup {d : Nat} {k : NestedKey} (h : UD (d + 1) k = true) : ∃ ks, k = .tup ks ∧ ∀ x ∈ ks, UD d x = true := by
  cases k with
  | tup ks => exact ⟨ks, rfl, fun x hx => by simp only [UD, List.all_eq_true] at h; exact h x hx⟩
  | _ => simp [UD] at h
theorem UD.num {k : NestedKey} (h : UD 0 k = true) : ∃ i, k = .num i := by
  cases k with
  | num i => exact ⟨i, rfl⟩
  | _ => simp [UD] at h
theorem UD.depth : ∀ (d : Nat) (k : NestedKey), UD d k = true → k.depth ≤ d
  | 0, k, h => by obtain ⟨i, rfl⟩ := UD.num h; simp [NestedKey.depth]
  | d + 1, k, h => by
    obtain ⟨ks, rfl, hk⟩ := UD.tup h
    have : NestedKey.depthAll ks ≤ d := by
      clear h
      induction ks with
      | nil => simp [NestedKey.depthAll]
      | cons a ks ih =>
        have h1 := UD.depth d a (hk a List.mem_cons_self)
        have h2 := ih fun x hx => hk x (List.mem_cons_of_mem _ hx)
        simp only [NestedKey.depthAll]; omega
    simp only [NestedKey.depth]; omega
/-- a strict order, and total -/
structure Tot3 (S : NestedKey → Prop) (lt : NestedKey → NestedKey → Bool) : Prop where
  irr : ∀ a, S a → lt a a = false
  tr : ∀ a b c, S a → S b → S c → lt a b = true → lt b c = true → lt a c = true
  tri : ∀ a b, S a → S b → lt a b = true ∨ a = b ∨ lt b a = true
theorem klt_tot : ∀ d : Nat, Tot3 (fun k => UD d k = true) klt
  | 0 => by
    refine ⟨fun a ha => ?_, fun a b c ha hb hc h1 h2 => ?_, fun a b ha hb => ?_⟩
    · obtain ⟨i, rfl⟩ := UD.num ha; simp [klt]
    · obtain ⟨i, rfl⟩ := UD.num ha; obtain ⟨j, rfl⟩ := UD.num hb; obtain ⟨l, rfl⟩ := UD.num hc
      simp only [klt, decide_eq_true_eq] at h1 h2 ⊢; omega
    · obtain ⟨i, rfl⟩ := UD.num ha; obtain ⟨j, rfl⟩ := UD.num hb
      simp only [klt, decide_eq_true_eq]
      rcases Int.lt_trichotomy i j with h | h | h
      · exact .inl h
      · exact .inr (.inl (by rw [h]))
      · exact .inr (.inr h)
  | d + 1 => by
    have T := klt_tot d
    have irr : ∀ as : List NestedKey, (∀ x ∈ as, UD d x = true) → klts as as = false := by
      intro as
      induction as with
      | nil => exact fun _ => rfl
      | cons a as ih => intro h; simp only [klts, NestedKey.beq_self, if_true]; exact ih fun x hx => h x (List.mem_cons_of_mem _ hx)
    have tri : ∀ as bs : List NestedKey, (∀ x ∈ as, UD d x = true) → (∀ x ∈ bs, UD d x = true) → klts as bs = true ∨ as = bs ∨ klts bs as = true := by
      intro as
      induction as with
      | nil => intro bs _ _; cases bs with
        | nil => exact .inr (.inl rfl)
        | cons b bs => exact .inl rfl
      | cons a as ih =>
        intro bs h1 h2
        cases bs with
        | nil => exact .inr (.inr rfl)
        | cons b bs =>
          simp only [klts]
          by_cases e : NestedKey.beq a b = true
          · have e' := (beq_iff a b).mp e
            subst e'
            simp only [NestedKey.beq_self, if_true]
            rcases ih bs (fun x hx => h1 x (List.mem_cons_of_mem _ hx)) (fun x hx => h2 x (List.mem_cons_of_mem _ hx)) with h | h | h
            · exact .inl h
            · exact .inr (.inl (by rw [h]))
            · exact .inr (.inr h)
          · have e2 : ¬ NestedKey.beq b a = true := fun z => e ((beq_iff a b).mpr ((beq_iff b a).mp z).symm)
            rw [if_neg e, if_neg e2]
            rcases T.tri a b (h1 a List.mem_cons_self) (h2 b List.mem_cons_self) with h | h | h
            · exact .inl h
            · exact absurd ((beq_iff a b).mpr h) e
            · exact .inr (.inr h)
    have tr : ∀ as bs cs : List NestedKey, (∀ x ∈ as, UD d x = true) → (∀ x ∈ bs, UD d x = true) → (∀ x ∈ cs, UD d x = true) → klts as bs = true → klts bs cs = true → klts as cs = true := by
      intro as
      induction as with
      | nil => intro bs cs _ _ _ h1 h2; cases cs with
        | nil => cases bs <;> simp [klts] at h2
        | cons c cs => rfl
      | cons a as ih =>
        intro bs cs ha hb hc h1 h2
        cases bs with
        | nil => simp [klts] at h1
        | cons b bs =>
          cases cs with
          | nil => simp [klts] at h2
          | cons c cs =>
            have ua := ha a List.mem_cons_self
            have ub := hb b List.mem_cons_self
            have uc := hc c List.mem_cons_self
            simp only [klts] at h1 h2 ⊢
            by_cases e : NestedKey.beq a b = true
            · rw [if_pos e] at h1
              have e' := (beq_iff a b).mp e
              subst e'
              by_cases e2 : NestedKey.beq a c = true
              · rw [if_pos e2] at h2 ⊢
                exact ih bs cs (fun x hx => ha x (List.mem_cons_of_mem _ hx)) (fun x hx => hb x (List.mem_cons_of_mem _ hx)) (fun x hx => hc x (List.mem_cons_of_mem _ hx)) h1 h2
              · rw [if_neg e2] at h2 ⊢; exact h2
            · rw [if_neg e] at h1
              by_cases e2 : NestedKey.beq b c = true
              · have e' := (beq_iff b c).mp e2
                subst e'
                rw [if_neg e]; exact h1
              · rw [if_neg e2] at h2
                have q := T.tr a b c ua ub uc h1 h2
                have e3 : ¬ NestedKey.beq a c = true := fun z => by
                  have := (beq_iff a c).mp z
                  subst this
                  rw [T.irr a ua] at q; cases q
                rw [if_neg e3]; exact q
    refine ⟨fun a ha => ?_, fun a b c ha hb hc h1 h2 => ?_, fun a b ha hb => ?_⟩
    · obtain ⟨ks, rfl, hk⟩ := UD.tup ha; simp only [klt]; exact irr ks hk
    · obtain ⟨ks, rfl, hk⟩ := UD.tup ha; obtain ⟨ls, rfl, hl⟩ := UD.tup hb; obtain ⟨ms, rfl, hm⟩ := UD.tup hc
      simp only [klt] at h1 h2 ⊢; exact tr ks ls ms hk hl hm h1 h2
    · obtain ⟨ks, rfl, hk⟩ := UD.tup ha; obtain ⟨ls, rfl, hl⟩ := UD.tup hb
      simp only [klt]
      rcases tri ks ls hk hl with h | h | h
      · exact .inl h
      · exact .inr (.inl (by rw [h]))
      · exact .inr (.inr h)
/-- how many of D come before k -/
def rkOf (D : List NestedKey) (k : NestedKey) : Int := ((D.filter fun x => klt x k).length : Int)
theorem rk_lt {d : Nat} {D : List NestedKey} (hD : ∀ x ∈ D, UD d x = true) {a b : NestedKey} (ha : a ∈ D) (hb : b ∈ D) : decide (rkOf D a < rkOf D b) = klt a b := by
  have T := klt_tot d
  have le : ∀ (p q : NestedKey → Bool) (l : List NestedKey), (∀ x ∈ l, p x = true → q x = true) → (l.filter p).length ≤ (l.filter q).length := by
    intro p q l
    induction l with
    | nil => exact fun _ => Nat.le_refl _
    | cons x l ih =>
      intro h
      have i := ih fun y hy => h y (List.mem_cons_of_mem _ hy)
      have hx := h x List.mem_cons_self
      simp only [List.filter_cons]
      by_cases hp : p x = true
      · rw [if_pos hp, if_pos (hx hp)]; simp only [List.length_cons]; omega
      · rw [if_neg hp]
        split <;> (try simp only [List.length_cons]) <;> omega
  have lt : ∀ (p q : NestedKey → Bool) (l : List NestedKey), (∀ x ∈ l, p x = true → q x = true) → (∃ x ∈ l, p x = false ∧ q x = true) → (l.filter p).length < (l.filter q).length := by
    intro p q l
    induction l with
    | nil => rintro _ ⟨x, hx, _⟩; cases hx
    | cons x l ih =>
      rintro h ⟨y, hy, h1, h2⟩
      have hx := h x List.mem_cons_self
      have i0 := le p q l fun y hy => h y (List.mem_cons_of_mem _ hy)
      simp only [List.filter_cons]
      rcases List.mem_cons.mp hy with e | hy
      · subst e
        rw [if_neg (by rw [h1]; exact Bool.false_ne_true), if_pos h2]
        simp only [List.length_cons]; omega
      · have i := ih (fun y hy => h y (List.mem_cons_of_mem _ hy)) ⟨y, hy, h1, h2⟩
        by_cases hp : p x = true
        · rw [if_pos hp, if_pos (hx hp)]; simp only [List.length_cons]; omega
        · rw [if_neg hp]
          split <;> (try simp only [List.length_cons]) <;> omega
  have ua := hD a ha
  have ub := hD b hb
  unfold rkOf
  cases q : klt a b with
  | true =>
    refine decide_eq_true ?_
    have := lt (fun x => klt x a) (fun x => klt x b) D (fun x hx h => T.tr x a b (hD x hx) ua ub h q) ⟨a, ha, T.irr a ua, q⟩
    omega
  | false =>
    refine decide_eq_false ?_
    have := le (fun x => klt x b) (fun x => klt x a) D fun x hx h => by
      rcases T.tri a b ua ub with z | z | z
      · rw [q] at z; cases z
      · rw [z]; exact h
      · exact T.tr x b a (hD x hx) ub ua h z
    omega
theorem lex_shift (e r : Nat → Bool) (z : Bool) : ∀ (k i : Nat), Ob.lexAt e r z (i + 1) k = Ob.lexAt (fun j => e (j + 1)) (fun j => r (j + 1)) z i k
  | 0, i => rfl
  | k + 1, i => by rw [Ob.lexAt_succ, Ob.lexAt_succ, lex_shift e r z k (i + 1)]
theorem lex_klts : ∀ xs ys : List NestedKey, Ob.lexAt (fun j => NestedKey.beq (xs.getD j .none) (ys.getD j .none)) (fun j => klt (xs.getD j .none) (ys.getD j .none)) (decide (xs.length < ys.length)) 0 (min xs.length ys.length) = klts xs ys
  | [], [] => rfl
  | [], _ :: _ => rfl
  | _ :: _, [] => rfl
  | x :: xs, y :: ys => by
    have ih := lex_klts xs ys
    rw [show min (x :: xs).length (y :: ys).length = min xs.length ys.length + 1 by simp only [List.length_cons]; omega, Ob.lexAt_succ, lex_shift]
    simp only [klts, List.getD_cons_zero, List.getD_cons_succ, List.length_cons, Nat.add_lt_add_iff_right]
    rw [ih]
theorem lt_key {s : Shared} : ∀ (d : Nat) (x y : NestedKey) (A : Around) (a b : Value), UD d x = true → UD d y = true → NI s.heap x a → NI s.heap y b → A.units + d < cLine → Ob.RcOp .Lt A s a b (klt x y)
  | 0, x, y, A, a, b, hx, hy, ra, rb, hu => by
    obtain ⟨i, rfl⟩ := UD.num hx; obtain ⟨j, rfl⟩ := UD.num hy
    simp only [NI] at ra rb
    obtain ⟨t, rfl⟩ := ra; obtain ⟨u, rfl⟩ := rb
    simp only [klt]
    exact Ob.RcOp.lt_int i j t u
  | d + 1, x, y, A, a, b, hx, hy, ra, rb, hu => by
    obtain ⟨ks, rfl, hk⟩ := UD.tup hx; obtain ⟨ls, rfl, hl⟩ := UD.tup hy
    simp only [NI] at ra rb
    obtain ⟨p, o, vs, n, rfl, e1, c1, d1, r1⟩ := ra
    obtain ⟨q, o', ws, m, rfl, e2, c2, d2, r2⟩ := rb
    have n1 : vs.size = ks.length := by simpa using NIs.length _ _ r1
    have n2 : ws.size = ls.length := by simpa using NIs.length _ _ r2
    have dd : NestedKey.depthAll ks ≤ d := by have := UD.depth _ _ hx; simp only [NestedKey.depth] at this; omega
    have un : A.in1.units = A.units + 1 := by simp
    simp only [klt]
    rw [← lex_klts, ← n1, ← n2]
    refine Ob.RcOp.tuples_lt ⟨o, e1, c1, n, d1⟩ ⟨o', e2, c2, m, d2⟩ (by omega) (fun j h1 h2 => ?_) fun j h1 h2 _ => ?_
    · have := eqAt_keys ks ls A.in1 s vs.toList ws.toList (NIs.nested _ _ r1) (NIs.nested _ _ r2) (by rw [un]; omega) j (by simpa using h1) (by simpa using h2)
      simp only [Array.getElem_toList] at this
      exact this
    · have z1 := NIs.getAt ks vs.toList r1 j (by simpa using h1)
      have z2 := NIs.getAt ls ws.toList r2 j (by simpa using h2)
      have j1 : j < ks.length := by omega
      have j2 : j < ls.length := by omega
      have m1 : ks.getD j .none ∈ ks := by rw [List.getD_eq_getElem?_getD, List.getElem?_eq_getElem j1]; exact List.getElem_mem j1
      have m2 : ls.getD j .none ∈ ls := by rw [List.getD_eq_getElem?_getD, List.getElem?_eq_getElem j2]; exact List.getElem_mem j2
      have := lt_key d _ _ A.in1 _ _ (hk _ m1) (hl _ m2) z1 z2 (by rw [un]; omega)
      simp only [Array.getElem_toList] at this
      exact this
section
variable {prog : Program} {w : World} {A : Around} {E : Value → Shared → Prop} {s : Shared}
theorem kat_trees {d : Nat} {b fin : Bool} {Q : Bool → Shared → Prop} (hb : d ≠ 0 → b = false) (hu : A.units + d + 8 < cLine) : ∀ (ks ls : List NestedKey) (xs ys : List Value) (i : Nat), (∀ x ∈ ks, UD d x = true) → (∀ x ∈ ls, UD d x = true) → NIs s.heap ks xs → NIs s.heap ls ys →
    fin = decide (ks.length < ls.length) → Q (klts ks ls) s → PySem.W.KatLex prog w A b fin Q (xs.zip ys) i s
  | [], ls, xs, ys, i, hk, hl, rx, ry, hf, q => by
    simp only [NIs] at rx; subst rx
    rw [List.zip_nil_left]
    refine PySem.W.kat_nil ?_
    cases ls with
    | nil => subst hf; exact q
    | cons l ls => subst hf; simpa [klts] using q
  | k :: ks, [], xs, ys, i, hk, hl, rx, ry, hf, q => by
    simp only [NIs] at ry; subst ry
    rw [List.zip_nil_right]
    refine PySem.W.kat_nil ?_
    subst hf; simpa [klts] using q
  | k :: ks, l :: ls, xs, ys, i, hk, hl, rx, ry, hf, q => by
    simp only [NIs] at rx ry
    obtain ⟨x, xs', rfl, rk, rks⟩ := rx
    obtain ⟨y, ys', rfl, rl, rls⟩ := ry
    have dk := UD.depth _ _ (hk k List.mem_cons_self)
    rw [List.zip_cons_cons]
    refine PySem.W.kat_cons (eqAt_key k l A s x y (NI.nested _ _ rk) (NI.nested _ _ rl) (by omega) _ _ _ _ ?_)
    simp only [klts] at q
    by_cases e : NestedKey.beq k l = true
    · rw [if_pos e] at q
      rw [e]
      refine PySem.W.kat_yes (kat_trees hb hu ks ls xs' ys' (i + 1) (fun z hz => hk z (List.mem_cons_of_mem _ hz)) (fun z hz => hl z (List.mem_cons_of_mem _ hz)) rks rls ?_ q)
      rw [hf]; simp
    · rw [if_neg e] at q
      rw [show NestedKey.beq k l = false from by simpa using e]
      refine PySem.W.kat_no ?_
      by_cases hd : d = 0
      · subst hd
        obtain ⟨u, rfl⟩ := UD.num (hk k List.mem_cons_self); obtain ⟨v, rfl⟩ := UD.num (hl l List.mem_cons_self)
        simp only [NI] at rk rl
        obtain ⟨t, rfl⟩ := rk; obtain ⟨t', rfl⟩ := rl
        refine TS.oneLt_ints _ ?_
        simpa [klt] using q
      · rw [hb hd, Bool.false_and]
        refine PySem.W.kat_one _ _ ?_
        exact lt_key d k l A x y (hk k List.mem_cons_self) (hl l List.mem_cons_self) rk rl (by omega) _ _ _ _ q
/-- what is sorted -/
def Srt (h : Heap) (d : Nat) (key : Value → NestedKey) (vs : List Value) : Prop := ∀ v ∈ vs, NI h (key v) v ∧ UD (d + 1) (key v) = true ∧ key v ≠ .tup []
theorem Srt.firsts {h : Heap} {d : Nat} {key : Value → NestedKey} : ∀ vs : List Value, Srt h d key vs → ∃ fs, PySem.W.KatTups h vs fs ∧ fs.length = vs.length ∧ ∀ f ∈ fs, ∃ k, UD d k = true ∧ NI h k f
  | [], _ => ⟨[], PySem.W.KatTups.nil, rfl, fun f hf => by simp at hf⟩
  | v :: vs, x => by
    obtain ⟨fs, k, hl, hi⟩ := Srt.firsts vs fun u hu => x u (List.mem_cons_of_mem _ hu)
    obtain ⟨n1, u1, ne⟩ := x v List.mem_cons_self
    obtain ⟨ks, ek, hk⟩ := UD.tup u1
    rw [ek] at n1 ne
    simp only [NI] at n1
    obtain ⟨a, o, us, n, rfl, e, c, dd, r⟩ := n1
    cases ks with
    | nil => exact absurd rfl ne
    | cons k0 ks =>
      simp only [NIs] at r
      obtain ⟨y, ys, ey, ry, rys⟩ := r
      refine ⟨y :: fs, PySem.W.KatTups.cons e c dd ?_ k, by simp [hl], fun f hf => ?_⟩
      · have z := congrArg (fun l : List Value => l[0]?) ey
        simpa using z
      · rcases List.mem_cons.mp hf with rfl | hf
        · exact ⟨k0, hk k0 List.mem_cons_self, ry⟩
        · exact hi f hf
theorem NI.typ {M : Model} {h : Heap} {d : Nat} {k : NestedKey} {v : Value} (hu : UD d k = true) (r : NI h k v) : PySem.W.Looks M h (typeOf v) (.type (if d = 0 then "int" else "tuple")) := by
  cases d with
  | zero =>
    obtain ⟨i, rfl⟩ := UD.num hu
    simp only [NI] at r
    obtain ⟨t, rfl⟩ := r
    exact PySem.W.Looks.of_pure rfl
  | succ d =>
    obtain ⟨ks, rfl, _⟩ := UD.tup hu
    simp only [NI] at r
    obtain ⟨a, o, us, n, rfl, e, c, dd, r⟩ := r
    intro A' Q' E' s' kk q
    exact wpAny_typeOf ⟨o, kk _ _ e, c⟩ q
theorem kind_trees {d : Nat} {vs : List Value} {key : Value → NestedKey} (hu : A.units + d + 8 < cLine) (h2 : 2 ≤ vs.length) (x : Srt s.heap d key vs) (Q : SortKind → Shared → Prop)
    (h : ∀ κ, TS.Cmp prog w A s κ (PyProof.Rows.pairsOf vs) (fun v => rkOf (vs.map key) (key v)) → Q κ s) : wpAny (model prog w) A (keyKind' vs.toArray) Q E s := by
  obtain ⟨fs, k, hl, hi⟩ := Srt.firsts vs x
  refine PySem.W.kat_kind (T := Value.type (if d = 0 then "int" else "tuple")) k (by omega) (fun f hf => ?_) (by simp) (h _ ?_)
  · obtain ⟨k0, u0, r0⟩ := hi f hf
    exact NI.typ u0 r0
  · intro p q hp hq Q' E' hQ
    rw [PyProof.Rows.pairsOf_toList] at hp hq
    have mp := (mem_zip_self hp).2
    have mq := (mem_zip_self hq).2
    obtain ⟨n1, u1, _⟩ := x _ mp
    obtain ⟨n2, u2, _⟩ := x _ mq
    rw [rk_lt (d := d + 1) (fun z hz => by obtain ⟨v, hv, rfl⟩ := List.mem_map.mp hz; exact (x v hv).2.1) (List.mem_map_of_mem mp) (List.mem_map_of_mem mq)] at hQ
    generalize key p.1 = kp at n1 u1 hQ
    generalize key q.1 = kq at n2 u2 hQ
    obtain ⟨ks, rfl, hk⟩ := UD.tup u1
    obtain ⟨ls, rfl, hl⟩ := UD.tup u2
    simp only [NI] at n1 n2
    obtain ⟨a, o, us, n, ea, e1, c1, d1, r1⟩ := n1
    obtain ⟨a', o', us', n', ea', e2, c2, d2, r2⟩ := n2
    rw [ea, ea']
    have l1 : us.size = ks.length := by simpa using NIs.length _ _ r1
    have l2 : us'.size = ls.length := by simpa using NIs.length _ _ r2
    refine PySem.W.kat_lt e1 d1 e2 d2 ?_
    rw [l1, l2]
    exact kat_trees (d := d) (fun hd => by simp [hd]) hu ks ls _ _ 0 hk hl r1 r2 rfl (by simpa only [klt] using hQ)
theorem sort_trees {a : Addr} {vs : List Value} {n d : Nat} {key : Value → NestedKey} {P : PySem.Fin → Shared → Prop} (ho : s.heap.get? a = some (seqObj "list" vs.toArray n)) (h64 : vs.length < 4096) (hu : A.units + d + 8 < cLine) (x : Srt s.heap d key vs)
    (h : ∀ out : Array Value, out.toList.Perm vs → out.toList.Pairwise (fun u v => klt (key v) (key u) = false) → P (.done (.ret .none)) { s with heap := sortedHeap s.heap a vs out }) :
    wpAny (model prog w) A (Builtin.«list.sort» ⟨[.ref a], []⟩) P E s := by
  have keep : ∀ b o us m, s.heap.get? b = some o → o.data = .seq us m → o.cls = .type "tuple" → (TS.midHeap s.heap a vs).get? b = some o := fun b o us m e _ hc => by
    refine TS.midHeap_old (fun z => ?_) e
    subst z
    rw [ho] at e; cases e
    exact absurd (show Value.type "list" = Value.type "tuple" from hc) (by intro z; injection z with z; exact absurd z (by decide))
  refine Zr.sort_any (r := fun v => rkOf (vs.map key) (key v)) ho h64 (fun h2 Q hQ => ?_) fun ps out h1 h2 h3 => ?_
  · exact kind_trees (s := { s with heap := TS.midHeap s.heap a vs }) hu h2 (fun v hv => ⟨NI.at keep _ _ (x v hv).1, (x v hv).2⟩) Q hQ
  · obtain ⟨p, o⟩ := TS.out_rank (r := fun v => rkOf (vs.map key) (key v)) h1 h2 h3
    refine h out p (List.Pairwise.imp_of_mem (fun {u v} hu hv hle => ?_) o)
    have mu := p.mem_iff.mp hu
    have mv := p.mem_iff.mp hv
    rw [← rk_lt (d := d + 1) (D := vs.map key) (fun z hz => by obtain ⟨v, hv, rfl⟩ := List.mem_map.mp hz; exact (x v hv).2.1) (List.mem_map_of_mem mv) (List.mem_map_of_mem mu)]
    exact decide_eq_false (by omega)
end
end Wr
set_option Elab.async false
set_option linter.all false
set_option maxRecDepth 100000
set_option maxHeartbeats 4000000
set_option autoImplicit false
namespace Wr
open PySem PySem.Spec PyProof.Rows L2
theorem nodup_unmap {α β : Type} {f : α → β} {l : List α} (h : (l.map f).Nodup) : l.Nodup := List.Pairwise.of_map f (fun _ _ hne e => hne (congrArg f e)) h
section
variable {P : Program} {w : World} {A : Around} {E : Value → Shared → Prop} {s : Shared}
/-- the key of a value of a heap -/
noncomputable def keyAt (h : Heap) (v : Value) : NestedKey := by
  classical
  exact if e : ∃ k, NI h k v then e.choose else .none
theorem keyAt_is {h : Heap} {k : NestedKey} {v : Value} (x : NI h k v) : keyAt h v = k := by
  classical
  have e : ∃ k, NI h k v := ⟨k, x⟩
  unfold keyAt
  rw [dif_pos e]
  exact NestedIs.inj _ _ _ (NI.nested _ _ e.choose_spec) (NI.nested _ _ x)
/-- values that are the addresses of entries -/
theorem ents_of (L : List Ent) : ∀ vs : List Value, (∀ v ∈ vs, ∃ q ∈ L, v = Value.ref q.1) → ∃ L1 : List Ent, vs = L1.map (fun q => Value.ref q.1) ∧ ∀ q ∈ L1, q ∈ L
  | [], _ => ⟨[], rfl, fun q hq => (by cases hq)⟩
  | v :: vs, hv => by
    obtain ⟨q, hq, e⟩ := hv v List.mem_cons_self
    obtain ⟨L1, e1, hs⟩ := ents_of L vs fun u hu => hv u (List.mem_cons_of_mem _ hu)
    refine ⟨q :: L1, by rw [List.map_cons, e, e1], fun r hr => ?_⟩
    rcases List.mem_cons.mp hr with z | z
    · rw [z]; exact hq
    · exact hs r z
end
mutual
def TV (K : PySem.W.Frag) (H : Hp) : NestedKey → V → Prop
  | .num i, v => v = .int i
  | .tup ks, v => ∃ a vs, v = .ref a ∧ SqT K H a vs ∧ TVs K H ks vs
  | .none, _ => False
  | .text _, _ => False
def TVs (K : PySem.W.Frag) (H : Hp) : List NestedKey → List V → Prop
  | [], vs => vs = []
  | k :: ks, vs => ∃ v r, vs = v :: r ∧ TV K H k v ∧ TVs K H ks r
end
section
variable {X : Cx} {pins : List (Addr × Obj)} {σ : L2.St} {H : Hp} {s : Shared}
mutual
theorem inv_ni (I : Inv X pins σ H s) : ∀ (k : NestedKey) (v : V) (u : Value), TV X.K H k v → RelV v u → NI s.heap k u
  | .num i, v, u, h, r => by
    simp only [TV] at h; subst h
    obtain ⟨t, rfl⟩ := r
    simp only [NI]; exact ⟨t, rfl⟩
  | .tup ks, v, u, h, r => by
    simp only [TV] at h
    obtain ⟨a, vs, rfl, q, r2⟩ := h
    cases r
    obtain ⟨its, rv, ⟨o, ho, hc, n, hd⟩, _⟩ := I.tuple q
    simp only [NI]
    exact ⟨a, o, its.toArray, n, rfl, ho, hc, hd, by simpa using inv_nis I ks vs its r2 rv⟩
  | .none, v, u, h, r => by simp only [TV] at h
  | .text _, v, u, h, r => by simp only [TV] at h
theorem inv_nis (I : Inv X pins σ H s) : ∀ (ks : List NestedKey) (vs : List V) (us : List Value), TVs X.K H ks vs → Vals vs us → NIs s.heap ks us
  | [], vs, us, h, r => by
    simp only [TVs] at h; subst h
    cases r
    simp only [NIs]
  | k :: ks, vs, us, h, r => by
    simp only [TVs] at h
    obtain ⟨v, t, rfl, h1, h2⟩ := h
    cases r with
    | cons r1 r2 =>
      simp only [NIs]
      exact ⟨_, _, rfl, inv_ni I k v _ h1 r1, inv_nis I ks t _ h2 r2⟩
end
/-- the set at a, without its tuples -/
structure SetN0 (w : World) (h : Heap) (a : Addr) (L : List Ent) : Prop where
  ex : ∃ (es : Array (Int × Value)) (ep : Nat) (t : SetTable), (∃ o, h.get? a = some o ∧ o.ExactSet ∧ o.data = .set es ep t) ∧ es.toList = L.map (entR w) ∧ TabOk t (L.map fun p => nh w p.2) ∧ (L.map (·.2)).Nodup ∧ t.plain = true ∧
    (w.params.followText "set-order" = true ∨ t.led = true) ∧ L.length * 5 < t.mask * 3 ∧ L.length < 64
theorem SetN.n0 {w : World} {h : Heap} {a : Addr} {L : List Ent} {es : Array (Int × Value)} {ep : Nat} {t : SetTable} (R : SetN w h a L es ep t) : SetN0 w h a L :=
  ⟨es, ep, t, R.ob, R.rows, R.tab, R.nd, R.plain, R.led, R.room, R.few⟩
theorem SetN0.full {w : World} {h : Heap} {a : Addr} {L : List Ent} (R : SetN0 w h a L) (ht : ∀ p ∈ L, TK8 h p.2 p.1) : ∃ es ep t, SetN w h a L es ep t := by
  obtain ⟨es, ep, t, h1, h2, h3, h4, h5, h6, h7, h8⟩ := R.ex
  exact ⟨es, ep, t, h1, h2, h3, h4, ht, h5, h6, h7, h8⟩
theorem vals_ents : ∀ {ks : List Ent} {us : List Value}, Vals (ks.map fun p => V.ref p.1) us → us = ks.map fun p => Value.ref p.1
  | [], _, .nil => rfl
  | p :: ks, _, .cons r t => by
    cases r
    rw [List.map_cons, ← vals_ents t]
theorem ents_vals : ∀ (ks : List Ent), Vals (ks.map fun p => V.ref p.1) (ks.map fun p => Value.ref p.1)
  | [] => .nil
  | p :: ks => .cons rfl (ents_vals ks)
end
end Wr
set_option Elab.async false
set_option linter.all false
set_option maxRecDepth 100000
set_option maxHeartbeats 4000000
set_option autoImplicit false
namespace Wr
open PySem PySem.Spec PyProof.Rows L2
mutual
def keyV : Va → Option NestedKey
  | .int i => some (.num i)
  | .tup xs => (keysV xs).map .tup
  | .non => none
  | .bl _ => none
  | .str _ => none
  | .ty _ => none
  | .gl _ => none
  | .scr => none
  | .exc _ => none
  | .ref _ => none
def keysV : List Va → Option (List NestedKey)
  | [] => some []
  | x :: xs => match keyV x with
    | some k => match keysV xs with
      | some ks => some (k :: ks)
      | none => none
    | none => none
end
mutual
def vaK : NestedKey → Va
  | .num i => .int i
  | .tup ks => .tup (vaKs ks)
  | .none => .non
  | .text x => .str x
def vaKs : List NestedKey → List Va
  | [] => []
  | k :: ks => vaK k :: vaKs ks
end
mutual
theorem key_va : ∀ (x : Va) (k : NestedKey), keyV x = some k → vaK k = x
  | .int i, k, e => by simp only [keyV] at e; cases e; simp only [vaK]
  | .tup xs, k, e => by
    simp only [keyV] at e
    obtain ⟨ks, h, rfl⟩ := Option.map_eq_some_iff.mp e
    simp only [vaK, keys_va xs ks h]
  | .non, k, e => by simp only [keyV] at e; cases e
  | .bl _, k, e => by simp only [keyV] at e; cases e
  | .str _, k, e => by simp only [keyV] at e; cases e
  | .ty _, k, e => by simp only [keyV] at e; cases e
  | .gl _, k, e => by simp only [keyV] at e; cases e
  | .scr, k, e => by simp only [keyV] at e; cases e
  | .exc _, k, e => by simp only [keyV] at e; cases e
  | .ref _, k, e => by simp only [keyV] at e; cases e
theorem keys_va : ∀ (xs : List Va) (ks : List NestedKey), keysV xs = some ks → vaKs ks = xs
  | [], ks, e => by simp only [keysV] at e; cases e; simp only [vaKs]
  | x :: xs, ks, e => by
    simp only [keysV] at e
    split at e
    · rename_i k hk
      split at e
      · rename_i r hr
        cases e
        simp only [vaKs, key_va x k hk, keys_va xs r hr]
      · cases e
    · cases e
end
section
variable {g : Gd} {ρ : List Addr} {H : Hp}
mutual
theorem rv_tv : ∀ (x : Va) (k : NestedKey) (v : V), keyV x = some k → Rv g ρ H x v → TV g.K H k v
  | .int i, k, v, e, r => by simp only [keyV] at e; cases e; simp only [Rv] at r; simp only [TV]; exact r
  | .tup xs, k, v, e, r => by
    simp only [keyV] at e
    obtain ⟨ks, h, rfl⟩ := Option.map_eq_some_iff.mp e
    simp only [Rv] at r
    obtain ⟨a, vs, rfl, q, r2⟩ := r
    simp only [TV]
    exact ⟨a, vs, rfl, q.sqT, rvs_tvs xs ks vs h r2⟩
  | .non, k, v, e, r => by simp only [keyV] at e; cases e
  | .bl _, k, v, e, r => by simp only [keyV] at e; cases e
  | .str _, k, v, e, r => by simp only [keyV] at e; cases e
  | .ty _, k, v, e, r => by simp only [keyV] at e; cases e
  | .gl _, k, v, e, r => by simp only [keyV] at e; cases e
  | .scr, k, v, e, r => by simp only [keyV] at e; cases e
  | .exc _, k, v, e, r => by simp only [keyV] at e; cases e
  | .ref _, k, v, e, r => by simp only [keyV] at e; cases e
theorem rvs_tvs : ∀ (xs : List Va) (ks : List NestedKey) (vs : List V), keysV xs = some ks → Rvs g ρ H xs vs → TVs g.K H ks vs
  | [], ks, vs, e, r => by simp only [keysV] at e; cases e; simp only [Rvs] at r; simp only [TVs]; exact r
  | x :: xs, ks, vs, e, r => by
    simp only [keysV] at e
    split at e
    · rename_i k hk
      split at e
      · rename_i t ht
        cases e
        simp only [Rvs] at r
        obtain ⟨v, u, rfl, r1, r2⟩ := r
        simp only [TVs]
        exact ⟨v, u, rfl, rv_tv x k v hk r1, rvs_tvs xs t u ht r2⟩
      · cases e
    · cases e
end
/-- the entries of a list of tuples of ours -/
theorem ents_rvs : ∀ (xs : List Va) (ks : List NestedKey) (vs : List V), keysV xs = some ks → (∀ k ∈ ks, ∃ l, k = .tup l) → Rvs g ρ H xs vs →
    ∃ L : List Ent, vs = L.map (fun p => V.ref p.1) ∧ L.map (·.2) = ks ∧ ∀ p ∈ L, TV g.K H p.2 (.ref p.1) ∧ Rv g ρ H (vaK p.2) (.ref p.1)
  | [], ks, vs, e, _, r => by
    simp only [keysV] at e; cases e; simp only [Rvs] at r; subst r
    exact ⟨[], rfl, rfl, fun p hp => by cases hp⟩
  | x :: xs, ks, vs, e, hd, r => by
    simp only [keysV] at e
    split at e
    · rename_i k hk
      split at e
      · rename_i t ht
        cases e
        simp only [Rvs] at r
        obtain ⟨v, u, rfl, r1, r2⟩ := r
        obtain ⟨L, e1, e2, h⟩ := ents_rvs xs t u ht (fun k hk => hd k (List.mem_cons_of_mem _ hk)) r2
        have tv := rv_tv x k v hk r1
        obtain ⟨l, rfl⟩ := hd k List.mem_cons_self
        have : ∃ a, v = .ref a := by simp only [TV] at tv; obtain ⟨a, _, e, _⟩ := tv; exact ⟨a, e⟩
        obtain ⟨a, rfl⟩ := this
        refine ⟨(a, .tup l) :: L, by rw [List.map_cons, e1], by rw [List.map_cons, e2], fun p hp => ?_⟩
        rcases List.mem_cons.mp hp with z | z
        · subst z; exact ⟨tv, by rw [key_va x _ hk]; exact r1⟩
        · exact h p z
      · cases e
    · cases e
theorem rvs_ents : ∀ (L : List Ent), (∀ p ∈ L, Rv g ρ H (vaK p.2) (.ref p.1)) → Rvs g ρ H ((L.map (·.2)).map vaK) (L.map fun p => V.ref p.1)
  | [], _ => Rvs.nil
  | p :: L, h => Rvs.cons (h p List.mem_cons_self) (rvs_ents L fun q hq => h q (List.mem_cons_of_mem _ hq))
end
def insK (k : NestedKey) : List NestedKey → List NestedKey
  | [] => [k]
  | x :: t => if klt k x then k :: x :: t else if NestedKey.beq k x then x :: t else x :: insK k t
def sortK : List NestedKey → List NestedKey
  | [] => []
  | x :: t => insK x (sortK t)
theorem insK_mem (k : NestedKey) : ∀ (l : List NestedKey) (z : NestedKey), z ∈ insK k l ↔ z = k ∨ z ∈ l
  | [], z => by simp [insK]
  | x :: t, z => by
    unfold insK
    split
    · simp
    · split
      · rename_i h
        have := (beq_iff k x).mp h
        subst this
        simp
      · rw [List.mem_cons, insK_mem k t z, List.mem_cons]
        constructor
        · rintro (h | h | h)
          · exact .inr (.inl h)
          · exact .inl h
          · exact .inr (.inr h)
        · rintro (h | h | h)
          · exact .inr (.inl h)
          · exact .inl h
          · exact .inr (.inr h)
theorem sortK_mem : ∀ (l : List NestedKey) (z : NestedKey), z ∈ sortK l ↔ z ∈ l
  | [], z => by simp [sortK]
  | x :: t, z => by unfold sortK; rw [insK_mem, sortK_mem t z, List.mem_cons]
theorem insK_sorted {d : Nat} (k : NestedKey) (hk : UD d k = true) : ∀ l : List NestedKey, (∀ x ∈ l, UD d x = true) → l.Pairwise (fun a b => klt a b = true) → (insK k l).Pairwise (fun a b => klt a b = true)
  | [], _, _ => by simp [insK]
  | y :: t, hu, h => by
    have T := klt_tot d
    obtain ⟨h1, h2⟩ := List.pairwise_cons.mp h
    have uy := hu y List.mem_cons_self
    unfold insK
    split
    · rename_i c
      refine List.pairwise_cons.mpr ⟨fun z hz => ?_, h⟩
      rcases List.mem_cons.mp hz with e | e
      · rw [e]; exact c
      · exact T.tr k y z hk uy (hu z hz) c (h1 z e)
    · rename_i c
      split
      · exact h
      · rename_i c2
        refine List.pairwise_cons.mpr ⟨fun z hz => ?_, insK_sorted k hk t (fun x hx => hu x (List.mem_cons_of_mem _ hx)) h2⟩
        rcases (insK_mem k t z).mp hz with e | e
        · rw [e]
          rcases T.tri k y hk uy with q | q | q
          · exact absurd q c
          · exact absurd ((beq_iff k y).mpr q) c2
          · exact q
        · exact h1 z e
theorem sortK_sorted {d : Nat} : ∀ l : List NestedKey, (∀ x ∈ l, UD d x = true) → (sortK l).Pairwise (fun a b => klt a b = true)
  | [], _ => .nil
  | x :: t, h => insK_sorted x (h x List.mem_cons_self) _ (fun z hz => h z (List.mem_cons_of_mem _ ((sortK_mem t z).mp hz))) (sortK_sorted t fun z hz => h z (List.mem_cons_of_mem _ hz))
theorem rising_eq {d : Nat} : ∀ {a b : List NestedKey}, (∀ x ∈ a, UD d x = true) → (∀ z, z ∈ a ↔ z ∈ b) → a.Pairwise (fun a b => klt a b = true) → b.Pairwise (fun a b => klt a b = true) → a = b
  | [], [], _, _, _, _ => rfl
  | [], y :: u, _, p, _, _ => by have := (p y).mpr List.mem_cons_self; simp at this
  | x :: t, [], _, p, _, _ => by have := (p x).mp List.mem_cons_self; simp at this
  | x :: t, y :: u, hu, p, ha, hb => by
    have T := klt_tot d
    obtain ⟨a1, a2⟩ := List.pairwise_cons.mp ha
    obtain ⟨b1, b2⟩ := List.pairwise_cons.mp hb
    have ub : ∀ z ∈ y :: u, UD d z = true := fun z hz => hu z ((p z).mpr hz)
    have ux := hu x List.mem_cons_self
    have uy := ub y List.mem_cons_self
    have e : x = y := by
      rcases List.mem_cons.mp ((p x).mp List.mem_cons_self) with e | e
      · exact e
      · rcases List.mem_cons.mp ((p y).mpr List.mem_cons_self) with e2 | e2
        · exact e2.symm
        · have := T.tr x y x ux uy ux (a1 y e2) (b1 x e)
          rw [T.irr x ux] at this; cases this
    subst e
    rw [rising_eq (fun z hz => hu z (List.mem_cons_of_mem _ hz)) (fun z => ⟨fun h => ?_, fun h => ?_⟩) a2 b2]
    · rcases List.mem_cons.mp ((p z).mp (List.mem_cons_of_mem _ h)) with e | e
      · have := a1 z h; rw [e, T.irr x ux] at this; cases this
      · exact e
    · rcases List.mem_cons.mp ((p z).mpr (List.mem_cons_of_mem _ h)) with e | e
      · have := b1 z h; rw [e, T.irr x ux] at this; cases this
      · exact e
def neT : NestedKey → Bool
  | .tup [] => false
  | .tup _ => true
  | _ => false
/-- what may be sorted: tuples, not empty, whose ints lie d levels down -/
def goodK (d : Nat) (ks : List NestedKey) : Bool := ks.all fun k => UD (d + 1) k && neT k
theorem goodK_at {d : Nat} {ks : List NestedKey} (h : goodK d ks = true) {k : NestedKey} (hk : k ∈ ks) : UD (d + 1) k = true ∧ k ≠ .tup [] := by
  have := List.all_eq_true.mp h k hk
  rw [Bool.and_eq_true] at this
  refine ⟨this.1, fun e => ?_⟩
  have := this.2
  rw [e] at this; cases this
end Wr
set_option Elab.async false
set_option linter.all false
set_option maxRecDepth 100000
set_option maxHeartbeats 4000000
set_option autoImplicit false
namespace Wr
open PySem PySem.Spec PyProof.Rows L2
section
variable {P : Program} {w : World} {A : Around} {E : Value → Shared → Prop} {s : Shared}
theorem sorted_trees {l : Addr} {vs : List Value} {d : Nat} {key : Value → NestedKey} {Q : Value → Shared → Prop} (hl : s.heap.IsList l vs.toArray) (h64 : vs.length < 4096) (hu : A.units + d + 30 < cLine) (x : Srt s.heap d key vs)
    (h : ∀ out : Array Value, out.toList.Perm vs → out.toList.Pairwise (fun u v => klt (key v) (key u) = false) → Q (.ref (s.heap.objs.size + 1)) { s with heap := sortedAll s.heap vs out }) :
    wpAny (model P w) A (call (.builtin "sorted") [.ref l]) Q E s := by
  refine Calls.call_function_entry kind_sorted plain_sorted entry_sorted (args_sorted1 _) ?_
  unfold Builtin.«sorted»
  refine wpAny_bind (m := checkCount "sorted" 1 1 _) (wpAny_pure ?_)
  refine wpAny_bind (collect_list hl ?_ (by rw [sizeLine_eq]; omega))
  refine wpAny_bind (wpAny_newList ?_ (by rw [sizeLine_eq]; omega))
  have hsz : ((s.heap.push (seqObj "list" #[] 0)).update s.heap.objs.size (Obj.mapSeq (· ++ vs.toArray))).objs.size = s.heap.objs.size + 1 := by
    rw [Heap.size_update, size_push']
  have hoL : (((s.heap.push (seqObj "list" #[] 0)).update s.heap.objs.size (Obj.mapSeq (· ++ vs.toArray))).push (seqObj "list" vs.toArray 0)).get? (s.heap.objs.size + 1) = some (seqObj "list" vs.toArray 0) := by
    rw [← hsz]; exact Heap.get?_push_size _ rfl
  have keep : ∀ b o us m, s.heap.get? b = some o → o.data = .seq us m → o.cls = .type "tuple" → (((s.heap.push (seqObj "list" #[] 0)).update s.heap.objs.size (Obj.mapSeq (· ++ vs.toArray))).push (seqObj "list" vs.toArray 0)).get? b = some o := fun b o us m q _ _ => by
    have hlt : b < s.heap.objs.size := Heap.lt_size q
    rw [Heap.get?_push_ne _ _ _ (by rw [hsz]; exact Nat.ne_of_lt (Nat.lt_succ_of_lt hlt)), Heap.get?_update_ne _ _ _ _ (Nat.ne_of_lt hlt), Heap.get?_push_ne _ _ _ (Nat.ne_of_lt hlt)]
    exact q
  show wpAny _ _ _ _ _ { s with heap := ((s.heap.push (seqObj "list" #[] 0)).update s.heap.objs.size (Obj.mapSeq (· ++ vs.toArray))).push (seqObj "list" vs.toArray 0) }
  rw [hsz]
  refine wpAny_bind (wpAny_holding (wpAny_call_entry slot_list_sort ⟨_, hoL, rfl⟩ entry_list_sort (sort_trees (d := d) (key := key) hoL h64 (by simp only [Around.in1_units]; omega) (fun v hv => ⟨NI.at keep _ _ (x v hv).1, (x v hv).2⟩) fun out a1 a2 => ⟨_, rfl, ?_⟩) (args_list_sort _)))
  exact wpAny_pure ⟨_, rfl, h out a1 a2⟩
end
section
variable {X : Cx}
def rSortLN (K : PySem.W.Frag) (d : Nat) : List V → Hp → VK → Prop := fun vs H Q => ∃ (a : Addr) (L : List Ent), vs = [V.ref a] ∧ SqL K H a (L.map fun q => V.ref q.1) ∧ L.length < 4096 ∧ d ≤ 6 ∧ (L.map (·.2)).Nodup ∧ (∀ p ∈ L, TV K H p.2 (.ref p.1) ∧ UD (d + 1) p.2 = true ∧ p.2 ≠ .tup []) ∧
  ∀ (L' : List Ent) (p : Addr), L'.Perm L → L'.Pairwise (fun q r => klt r.2 q.2 = false) → H p = none → Q (.ref p) (upd H p (.lst (L'.map fun q => V.ref q.1)))
theorem cr_sortLN {d : Nat} (hu : X.A.units + 64 < cLine) : CallR X (.builtin "sorted") (rSortLN X.K d) := by
  intro pins s σ H vs us Q I r h
  obtain ⟨a, L, rfl, hl, h64, hd, nd, hk, q⟩ := h
  rw [Vals.ref1 r]
  obtain ⟨its, rv, pl, hz⟩ := I.list hl
  have ei := vals_ents rv
  subst ei
  have ni : ∀ p ∈ L, NI s.heap p.2 (.ref p.1) := fun p hp => inv_ni I _ _ _ (hk p hp).1 rfl
  refine sorted_trees (d := d) (key := keyAt s.heap) (vs := L.map fun p => Value.ref p.1) pl.isList (by rw [List.length_map]; exact h64) (by omega) (fun v hv => ?_) fun out a1 a2 => ?_
  · obtain ⟨p, hp, rfl⟩ := List.mem_map.mp hv
    rw [keyAt_is (ni p hp)]
    exact ⟨ni p hp, (hk p hp).2⟩
  · obtain ⟨L', e', hs'⟩ := ents_of L out.toList fun v hv => by
      obtain ⟨p, hp, e⟩ := List.mem_map.mp (a1.mem_iff.mp hv)
      exact ⟨p, hp, e.symm⟩
    have nL : L.Nodup := nodup_unmap nd
    have one : ∀ q ∈ L, ∀ r ∈ L, q.1 = r.1 → q = r := fun q hq r hr e => by
      have b1 := ni q hq
      rw [e] at b1
      exact Prod.ext e (NestedIs.inj _ _ _ (NI.nested _ _ b1) (NI.nested _ _ (ni r hr)))
    have nref : (L.map fun q => Value.ref q.1).Nodup := by
      refine List.pairwise_map.mpr (List.Pairwise.imp_of_mem (fun {q r} hq hr hne e => ?_) nL)
      injection e with e
      exact hne (one q hq r hr e)
    have a1' := a1
    rw [e'] at a1'
    have pL : L'.Perm L := by
      refine (List.perm_ext_iff_of_nodup (nodup_unmap (a1'.nodup_iff.mpr nref)) nL).mpr fun q => ⟨hs' q, fun hq => ?_⟩
      obtain ⟨r, hr, e⟩ := List.mem_map.mp (a1'.mem_iff.mpr (List.mem_map.mpr ⟨q, hq, rfl⟩))
      injection e with e
      rw [← one r (hs' r hr) q hq e]
      exact hr
    have pw : L'.Pairwise (fun q r => klt r.2 q.2 = false) := by
      rw [e'] at a2
      refine List.Pairwise.imp_of_mem (fun {q r} hq hr hle => ?_) (List.pairwise_map.mp a2)
      rwa [keyAt_is (ni q (hs' q hq)), keyAt_is (ni r (hs' r hr))] at hle
    obtain ⟨c, hc⟩ := PyProof.Rows.sortedAll_at s.heap (L.map fun p => Value.ref p.1) out
    have hn : H (s.heap.objs.size + 1) = none := I.hok.fresh (by omega)
    have hlen : (L'.map fun q => V.ref q.1).length ≤ sizeLine := by rw [List.length_map, sizeLine_eq, pL.length_eq]; omega
    exact ⟨.ref (s.heap.objs.size + 1), _, I.laid (t' := s.toks) (o := .lst (L'.map fun q => V.ref q.1)) (fun _ _ => PyProof.Rows.sortedAll_old) (Nat.le_succ _) ⟨hlen, out.toList, c, by rw [e']; exact ents_vals L', hc⟩, rfl, q L' _ pL pw hn⟩
end
/-- none twice -/
def ndK : List NestedKey → Bool
  | [] => true
  | k :: ks => !(ks.any (NestedKey.beq k)) && ndK ks
theorem ndK_nodup : ∀ {ks : List NestedKey}, ndK ks = true → ks.Nodup
  | [], _ => List.nodup_nil
  | k :: ks, h => by
    simp only [ndK, Bool.and_eq_true, Bool.not_eq_true', List.any_eq_false] at h
    exact List.nodup_cons.mpr ⟨fun z => h.1 k z (NestedKey.beq_self k), ndK_nodup h.2⟩
def kSortL (d : Nat) : K1 := fun xs h => (lstArg xs h).bind fun ys => (keysV ys).bind fun ks => if goodK d ks && ndK ks && decide (ks.length < 4096) && decide (d ≤ 6) then some (.ref h.length, h ++ [.lst ((sortK ks).map vaK)]) else none
section
variable {g : Gd}
theorem c_sortL (d : Nat) : CallC g (.builtin "sorted") (rSortLN g.K d) := fun X hK _ hu => hK ▸ cr_sortLN (by omega)
theorem p_sortL (d : Nat) : PC1 g (rSortLN g.K d) (kSortL d) := by
  intro ρ H hp xs vs v h' Q R r e q
  obtain ⟨ys, h1, e⟩ := Option.bind_eq_some_iff.mp e
  obtain ⟨ks, h2, e⟩ := Option.bind_eq_some_iff.mp e
  by_cases hl : (goodK d ks && ndK ks && decide (ks.length < 4096) && decide (d ≤ 6)) = true
  · rw [if_pos hl] at e
    cases e
    simp only [Bool.and_eq_true, decide_eq_true_eq] at hl
    obtain ⟨⟨⟨hg1, hn⟩, h64⟩, hd⟩ := hl
    obtain ⟨a, us, rfl, e2, rv⟩ := lstArg_inv R r h1
    obtain ⟨L, rfl, e5, ht⟩ := ents_rvs ys ks us h2 (fun k hk => by obtain ⟨l, e, _⟩ := UD.tup (goodK_at hg1 hk).1; exact ⟨l, e⟩) rv
    have mk : ∀ p ∈ L, p.2 ∈ ks := fun p hp => by rw [← e5]; exact List.mem_map_of_mem hp
    have nd : (L.map (·.2)).Nodup := by rw [e5]; exact ndK_nodup hn
    refine ⟨a, L, rfl, .inl (.inl e2), by rw [← List.length_map (as := L) (·.2), e5]; exact h64, hd, nd, fun p hp => ⟨(ht p hp).1, goodK_at hg1 (mk p hp)⟩, fun L3 p2 pm pw hn2 => ?_⟩
    have keyse : L3.map (·.2) = sortK ks := by
      refine rising_eq (d := d + 1) (fun z hz => ?_) (fun z => ?_) ?_ (sortK_sorted (d := d + 1) ks fun k hk => (goodK_at hg1 hk).1)
      · obtain ⟨q, hq, rfl⟩ := List.mem_map.mp hz
        exact (goodK_at hg1 (mk q (pm.mem_iff.mp hq))).1
      · rw [sortK_mem, ← e5]
        exact (pm.map (·.2)).mem_iff
      · have T := klt_tot (d + 1)
        have nd2 := List.pairwise_map.mp ((pm.map (·.2)).nodup_iff.mpr nd)
        refine List.pairwise_map.mpr (List.Pairwise.imp_of_mem (fun {q r} hq hr hh => ?_) (nd2.and pw))
        rcases T.tri q.2 r.2 (goodK_at hg1 (mk q (pm.mem_iff.mp hq))).1 (goodK_at hg1 (mk r (pm.mem_iff.mp hr))).1 with z | z | z
        · exact z
        · exact absurd z hh.1
        · rw [hh.2] at z; cases z
    have rr := rvs_ents (g := g) (ρ := ρ) (H := H) L3 fun q hq => (ht q (pm.mem_iff.mp hq)).2
    rw [keyse] at rr
    obtain ⟨S4, R4, r4⟩ := new_lst R hn2 rr
    exact q _ _ _ S4 R4 r4
  · rw [if_neg hl] at e
    cases e
end
end Wr
set_option Elab.async false
set_option linter.all false
set_option maxRecDepth 100000
set_option maxHeartbeats 4000000
set_option autoImplicit false
namespace Wr
open PySem PySem.Spec PyProof.Rows L2
mutual
def sameV : Va → Va → Bool
  | .non, y => match y with | .non => true | _ => false
  | .bl a, y => match y with | .bl b => decide (a = b) | _ => false
  | .int a, y => match y with | .int b => decide (a = b) | _ => false
  | .str a, y => match y with | .str b => decide (a = b) | _ => false
  | .ty a, y => match y with | .ty b => decide (a = b) | _ => false
  | .gl a, y => match y with | .gl b => decide (a = b) | _ => false
  | .scr, y => match y with | .scr => true | _ => false
  | .exc a, y => match y with | .exc b => decide (a = b) | _ => false
  | .ref a, y => match y with | .ref b => decide (a = b) | _ => false
  | .tup a, y => match y with | .tup b => sameVs a b | _ => false
def sameVs : List Va → List Va → Bool
  | [], y => match y with | [] => true | _ :: _ => false
  | a :: as, y => match y with | [] => false | b :: bs => sameV a b && sameVs as bs
end
mutual
theorem sameV_refl : ∀ a : Va, sameV a a = true
  | .non => rfl
  | .bl a => by simp [sameV]
  | .int a => by simp [sameV]
  | .str a => by simp [sameV]
  | .ty a => by simp [sameV]
  | .gl a => by simp [sameV]
  | .scr => rfl
  | .exc a => by simp [sameV]
  | .ref a => by simp [sameV]
  | .tup a => by simp only [sameV]; exact sameVs_refl a
theorem sameVs_refl : ∀ a : List Va, sameVs a a = true
  | [] => rfl
  | a :: as => by simp only [sameVs, sameV_refl a, sameVs_refl as]; rfl
end
mutual
theorem sameV_eq : ∀ a b : Va, sameV a b = true → a = b
  | .non, y, h => by cases y <;> simp [sameV] at h; rfl
  | .bl a, y, h => by cases y <;> simp [sameV] at h; rw [h]
  | .int a, y, h => by cases y <;> simp [sameV] at h; rw [h]
  | .str a, y, h => by cases y <;> simp [sameV] at h; rw [h]
  | .ty a, y, h => by cases y <;> simp [sameV] at h; rw [h]
  | .gl a, y, h => by cases y <;> simp [sameV] at h; rw [h]
  | .scr, y, h => by cases y <;> simp [sameV] at h; rfl
  | .exc a, y, h => by cases y <;> simp [sameV] at h; rw [h]
  | .ref a, y, h => by cases y <;> simp [sameV] at h; rw [h]
  | .tup a, y, h => by
    cases y with
    | tup b => simp only [sameV] at h; rw [sameVs_eq a b h]
    | _ => simp [sameV] at h
theorem sameVs_eq : ∀ a b : List Va, sameVs a b = true → a = b
  | [], y, h => by cases y <;> simp [sameVs] at h; rfl
  | a :: as, y, h => by
    cases y with
    | nil => simp [sameVs] at h
    | cons b bs =>
      simp only [sameVs, Bool.and_eq_true] at h
      rw [sameV_eq a b h.1, sameVs_eq as bs h.2]
end
instance : DecidableEq Va := fun a b => if h : sameV a b = true then .isTrue (sameV_eq a b h) else .isFalse fun e => h (e ▸ sameV_refl a)
def sameO (a b : Ob) : Bool := match a with
  | .lst x => match b with | .lst y => decide (x = y) | _ => false
  | .dK x => match b with | .dK y => decide (x = y) | _ => false
  | .dT x => match b with | .dT y => decide (x = y) | _ => false
  | .dU x => match b with | .dU y => decide (x = y) | _ => false
  | .dF x => match b with | .dF y => decide (x = y) | _ => false
  | .ins c x => match b with | .ins d y => decide (c = d) && decide (x = y) | _ => false
theorem sameO_iff (a b : Ob) : sameO a b = true ↔ a = b := by
  constructor
  · intro h
    cases a <;> cases b <;> simp [sameO] at h <;> simp [h]
  · intro e
    subst e
    cases a <;> simp [sameO]
instance : DecidableEq Ob := fun a b => decidable_of_iff _ (sameO_iff a b)
def sameR {α : Type} [DecidableEq α] (a b : Rs α) : Bool := match a with
  | .ok x h => match b with | .ok y k => decide (x = y) && decide (h = k) | _ => false
  | .ex c h => match b with | .ex d k => decide (c = d) && decide (h = k) | _ => false
  | .no => match b with | .no => true | _ => false
theorem sameR_iff {α : Type} [DecidableEq α] (a b : Rs α) : sameR a b = true ↔ a = b := by
  constructor
  · intro h
    cases a <;> cases b <;> simp [sameR] at h <;> simp [h]
  · intro e
    subst e
    cases a <;> simp [sameR]
instance {α : Type} [DecidableEq α] : DecidableEq (Rs α) := fun a b => decidable_of_iff _ (sameR_iff a b)
def sameS (a b : RS) : Bool := match a with
  | .nx x h => match b with | .nx y k => decide (x = y) && decide (h = k) | _ => false
  | .rt x h => match b with | .rt y k => decide (x = y) && decide (h = k) | _ => false
  | .bk x h => match b with | .bk y k => decide (x = y) && decide (h = k) | _ => false
  | .ct x h => match b with | .ct y k => decide (x = y) && decide (h = k) | _ => false
  | .ex c x h => match b with | .ex d y k => decide (c = d) && (decide (x = y) && decide (h = k)) | _ => false
  | .no => match b with | .no => true | _ => false
theorem sameS_iff (a b : RS) : sameS a b = true ↔ a = b := by
  constructor
  · intro h
    cases a <;> cases b <;> simp [sameS] at h <;> simp [h]
  · intro e
    subst e
    cases a <;> simp [sameS]
instance : DecidableEq RS := fun a b => decidable_of_iff _ (sameS_iff a b)
/-- a statement that goes on, and what tidying leaves of it -/
def nxT (n0 : Nat) (live : List Nat) (r : RS) (s : Sg) (h : Hs) : Bool := match r with
  | .nx s1 h1 => decide (cleanS n0 live s1 h1 = some (s, h))
  | _ => false
theorem nxT_is {n0 : Nat} {live : List Nat} {r : RS} {s : Sg} {h : Hs} (e : nxT n0 live r s h = true) : ∃ s1 h1, r = .nx s1 h1 ∧ cleanS n0 live s1 h1 = some (s, h) := by
  unfold nxT at e
  split at e
  · exact ⟨_, _, rfl, of_decide_eq_true e⟩
  · cases e
end Wr
set_option Elab.async false
set_option linter.all false
set_option maxRecDepth 100000
set_option maxHeartbeats 4000000
set_option autoImplicit false
namespace Wr
open PySem PySem.Spec PyProof.Rows L2
end Wr
set_option Elab.async false
set_option linter.all false
set_option maxRecDepth 100000
set_option maxHeartbeats 4000000
set_option autoImplicit false
namespace Wr
open PySem PySem.Spec PyProof.Rows L2
def clsNm : Nat → Str
  | 0 => "WishError"
  | 1 => "NoBook"
  | 2 => "NoRule"
  | 3 => "NoPromise"
  | 4 => "NoThing"
  | 5 => "NoRanking"
  | 6 => "NoText"
  | 7 => "NoBack"
  | _ => "Poll"
def clsG (K : PySem.W.Frag) (n : Nat) : Addr := He.ga K (clsNm n)
/-- whether c stands under d -/
def subC (c d : Nat) : Bool := d == c || d == 0
abbrev vErr : List Value := [.type "ValueError", .type "Exception", .type "BaseException", .type "object"]
def excCB (K : PySem.W.Frag) (D : Addr) : Bool :=
  (PySem.W.findIn K (.ref D) "__getattribute__" == some (some (.builtin "BaseException.__getattribute__"))) && ((PySem.W.findIn K (.ref D) "__getattr__" == some none) && ((PySem.W.subIn K (.ref D) (.type "BaseException") == some true) && (PySem.W.hasDictIn K D &&
  ((PySem.W.findIn K (.ref D) "__class__" == some (some (.builtin "object.__class__"))) && ((PySem.W.specialIn K (.builtin "object.__class__") "__get__" == some (some (.builtin "getset_descriptor.__get__"))) && ((PySem.W.takesIn K (.builtin "object.__class__") == some true) && (PySem.W.mroIn K D (.type "object") == some true)))))))
theorem excCB_ok {K : PySem.W.Frag} {D : Addr} (h : excCB K D = true) : ExcC K D := by
  unfold excCB at h
  simp only [Bool.and_eq_true, beq_iff_eq] at h
  obtain ⟨h1, h2, h3, h4, h5, h6, h7, h8⟩ := h
  exact ⟨h1, h2, h3, h4, h5, h6, h7, h8⟩
def exnB1 (K : PySem.W.Frag) (cl : List Nat) (c : Nat) : Bool :=
  (PySem.W.nsIn K mainGlobals (clsNm c) == some (some (.ref (clsG K c)))) && (PySem.W.excIn K (clsG K c) vErr "ValueError.__new__" && (PySem.W.keepIn K (.ref (clsG K c)) && ((PySem.W.subIn K (.ref (clsG K c)) (.type "BaseException") == some true) && ((PySem.W.typeIn K (.ref (clsG K c)) == some (.type "type")) && (excCB K (clsG K c) &&
  ((PySem.W.kitOne K (.ref (clsG K c)) (.type "ValueError") == some true) && cl.all fun d => (PySem.W.exmOne K (.ref (clsG K c)) (.ref (clsG K d)) == some (subC c d)) && (PySem.W.kitOne K (.ref (clsG K c)) (.ref (clsG K d)) == some (subC c d))))))))
def exnB (K : PySem.W.Frag) (cl : List Nat) : Bool := cl.all (exnB1 K cl)
structure Exn (g : Gd) (mg : Str → Option Value) (cl : List Nat) : Prop where
  mg : ∀ c ∈ cl, mg (clsNm c) = some (.ref (g.G c))
  own : ∀ c ∈ cl, PySem.W.excIn g.K (g.G c) vErr "ValueError.__new__" = true
  kp : ∀ c ∈ cl, PySem.W.keepIn g.K (.ref (g.G c)) = true
  sub : ∀ c ∈ cl, PySem.W.subIn g.K (.ref (g.G c)) (.type "BaseException") = some true
  ty : ∀ c ∈ cl, PySem.W.typeIn g.K (.ref (g.G c)) = some (.type "type")
  exc : ∀ c ∈ cl, ExcC g.K (g.G c)
  val : ∀ c ∈ cl, PySem.W.kitOne g.K (.ref (g.G c)) (.type "ValueError") = some true
  exm : ∀ c ∈ cl, ∀ d ∈ cl, PySem.W.exmOne g.K (.ref (g.G c)) (.ref (g.G d)) = some (subC c d)
  kit : ∀ c ∈ cl, ∀ d ∈ cl, PySem.W.kitOne g.K (.ref (g.G c)) (.ref (g.G d)) = some (subC c d)
theorem exnB_ok {g : Gd} {h : Heap} {mg : Str → Option Value} {cl : List Nat} (X : g.K.In h) (G : h.Ns mainGlobals mg) (hG : g.G = clsG g.K) (e : exnB g.K cl = true) : Exn g mg cl := by
  unfold exnB at e
  rw [List.all_eq_true] at e
  have at_ : ∀ c ∈ cl, _ := fun c hc => by
    have z := e c hc
    unfold exnB1 at z
    simp only [Bool.and_eq_true, beq_iff_eq, List.all_eq_true] at z
    exact z
  refine ⟨fun c hc => ?_, fun c hc => ?_, fun c hc => ?_, fun c hc => ?_, fun c hc => ?_, fun c hc => ?_, fun c hc => ?_, fun c hc d hd => ?_, fun c hc d hd => ?_⟩ <;> rw [hG] <;> obtain ⟨h1, h2, h3, h4, h5, h6, h7, h8⟩ := at_ c hc
  · exact PySem.W.mg_of X G h1
  · exact h2
  · exact h3
  · exact h4
  · exact h5
  · exact excCB_ok h6
  · exact h7
  · exact (h8 d hd).1
  · exact (h8 d hd).2
section
variable {g : Gd} {X : Cx} {W : WX} {n : Nat} {pos p p2 pos2 : Pos} {cl : List Nat}
def dRaise (c : Nat) : Ds := fun s h => .ex c s h
theorem s_raise (c : Nat) {x m : Str} {j : Nat} (E : Exn g X.mg cl) (hc : c ∈ cl := by decide) (hx : clsNm c = x := by rfl) (hg : Gl X x := by rfl) (hdb : (x == ("__debug__" : Str)) = false := by decide) :
    SS g X W (n + 1) (.Raise (some (.Call (.Name x p) [.Constant (.str m) j p2] [] pos)) none pos2) (dRaise c) := by
  intro C
  subst hx
  refine (ps_raise C.calm C.tk (pmk_own (F := PySem.F.excBase_ValueError) (C := g.G c) (by rw [C.K]; exact E.own c hc) (E.mg c hc) (by rw [C.K]; exact E.kp c hc) (raises_own (by rw [C.K]; exact E.sub c hc) (by rw [C.K]; exact E.ty c hc)) hg hdb)).imp ?_
  rintro D σ H ⟨ρ, s, hp, R, L, h⟩
  exact h ρ H σ (.refl _ _) R L
end
end Wr
set_option Elab.async false
set_option linter.all false
set_option maxRecDepth 100000
set_option maxHeartbeats 4000000
set_option autoImplicit false
namespace Wr
open PySem PySem.Spec PyProof.Rows L2
def rRepF (K : PySem.W.Frag) : R2 := fun x y H Q => ∃ l k v0, x = .ref l ∧ y = .int k ∧ SqT K H l [v0] ∧ 2 ≤ k ∧ k ≤ 100 ∧ NewT H (List.replicate k.toNat [v0]).flatten Q
theorem op_repF {X : Cx} : OpR X (binaryOp .Mult) (rRepF X.K) := by
  intro pins s σ H x y v u Q I rx ry h
  obtain ⟨l, k, v0, rfl, rfl, hT, h1, h2, q⟩ := h
  cases rx
  obtain ⟨t, rfl⟩ := ry
  obtain ⟨its, r, ⟨ob, ho, hc, m, hd⟩, hs⟩ := I.tuple hT
  obtain ⟨cls, dd, data, sl⟩ := ob
  simp only at hc hd
  subst hc hd
  obtain ⟨w, rfl, _⟩ : ∃ w, its = [w] ∧ True := by
    have hl := r.length
    match its, hl with
    | [w], _ => exact ⟨w, rfl, trivial⟩
  have big : (List.replicate k.toNat [w]).flatten.length ≤ sizeLine := by
    rw [PyProof.Rows.lm_len_rep_flat, sizeLine_eq, List.length_singleton]
    omega
  have g0 : (decide (k < -(2 ^ 63)) || decide (k ≥ 2 ^ 63)) = false := by
    rw [decide_eq_false (show ¬ k < -(2 ^ 63) by omega), decide_eq_false (show ¬ k ≥ 2 ^ 63 by omega)]; rfl
  have g1 : (([w] : List Value).toArray.isEmpty || k == 1) = false := by
    rw [show ([w] : List Value).toArray.isEmpty = false from rfl, Bool.false_or]
    exact beq_eq_false_iff_ne.mpr (show k ≠ 1 by omega)
  have g2 : (decide (k ≤ 0) || ([w] : List Value).toArray.isEmpty) = false := by
    rw [show ([w] : List Value).toArray.isEmpty = false from rfl, Bool.or_false]
    exact decide_eq_false (show ¬ k ≤ 0 by omega)
  have sz : (([w] : List Value).toArray.size : Int) * k = k := by
    rw [show ([w] : List Value).toArray.size = 1 from rfl]; omega
  have g4 : Builtin.Tuple.tupleTooMany (((([w] : List Value).toArray.size : Nat) : Int) * k) = false := by
    rw [sz]
    unfold Builtin.Tuple.tupleTooMany
    rw [sizeLine_eq]
    exact decide_eq_false (by omega)
  have mul := tuple_mulW l ([w] : List Value).toArray m dd sl k t g0 g1 g2 (by rw [sz]; omega) g4 (by rw [size_rep, List.size_toArray]; exact big)
  have slot := fun (s' : Shared) => typeIs_int s' k t
  refine wpAny_binaryOp_repeat_ref (T := "tuple") (U := "int") (by decide) ⟨_, ho, rfl⟩ slot noFill_tuple_mul F.fills_int_mul F.slot_int_rmul repeat_tuple F.slot_int_index.lookup ?_
  refine call_meets F.slot_int_rmul (slot s) F.entry_int_rmul (F.args_int_rmul_2 _ _) (int_rmul_tuple k t l ([w] : List Value).toArray m dd sl) ⟨ho, rfl, ⟨_, ho, rfl⟩, ?_⟩
  refine call_meets F.slot_tuple_mul ⟨_, ho, rfl⟩ F.entry_tuple_mul (F.args_tuple_mul_2 _ _) mul ⟨ho, ?_⟩
  rw [size_rep]
  exact EP.newN (t' := s.toks) I (fun b ob e => Heap.get?_push_of_some _ e) (Nat.le_refl _) (Heap.get?_push_size _ rfl) (r.rep k.toNat) (by rw [PyProof.Rows.lm_len_rep_flat, sizeLine_eq, List.length_singleton]; omega) q
section
variable {g : Gd}
def kRepT : K2 := fun x y h => match x, y with
  | .tup [v], .int k => if decide (2 ≤ k) && decide (k ≤ 100) then some (.tup (List.replicate k.toNat v), h) else none
  | _, _ => none
theorem o_repT : ∀ X : Cx, X.K = g.K → OpR X (binaryOp .Mult) (rRepF g.K) := fun X hK => hK ▸ op_repF
theorem rep_flat {α : Type} (v : α) : ∀ k : Nat, (List.replicate k [v]).flatten = List.replicate k v
  | 0 => rfl
  | k + 1 => by rw [List.replicate_succ, List.flatten_cons, rep_flat v k, List.replicate_succ]; rfl
theorem Rvs.repl {ρ : List Addr} {H : Hp} {x : Va} {v : V} (h : Rv g ρ H x v) : ∀ k : Nat, Rvs g ρ H (List.replicate k x) (List.replicate k v)
  | 0 => Rvs.nil
  | k + 1 => by rw [List.replicate_succ, List.replicate_succ]; exact Rvs.cons h (Rvs.repl h k)
theorem p_repT : P2 g (rRepF g.K) kRepT := by
  intro ρ H hp x y vx vy v h' Q R rx ry e q
  unfold kRepT at e
  split at e
  · rename_i v0 k
    by_cases hz : (decide (2 ≤ k) && decide (k ≤ 100)) = true
    · rw [if_pos hz] at e
      cases e
      simp only [Bool.and_eq_true, decide_eq_true_eq] at hz
      simp only [Rv] at rx
      obtain ⟨a, vs, rfl, ht, rv⟩ := rx
      obtain ⟨w, rfl, rw'⟩ := rv.inv1
      refine ⟨a, k, w, rfl, rv_int ry, ht.sqT, hz.1, hz.2, fun p us hn => ?_⟩
      rw [rep_flat]
      obtain ⟨S3, R3, r3⟩ := new_tup (us := us) R hn (Rvs.repl rw' k.toNat)
      exact q _ _ _ S3 R3 r3
    · rw [if_neg hz] at e; cases e
  · cases e
end
end Wr
set_option Elab.async false
set_option linter.all false
set_option maxRecDepth 100000
set_option maxHeartbeats 4000000
set_option autoImplicit false
namespace Wr
open PySem PySem.Spec PyProof.Rows L2
mutual
theorem TN.tv {K : PySem.W.Frag} {H : Hp} : ∀ (k : NestedKey) (v : V), TN K H k v → TV K H k v
  | .num i, v, h => by simpa only [TN, TV] using h
  | .tup ks, v, h => by
    simp only [TN] at h
    simp only [TV]
    obtain ⟨a, vs, e, q, r⟩ := h
    exact ⟨a, vs, e, q.sqT, TNs.tvs ks vs r⟩
  | .none, v, h => by simp only [TN] at h
  | .text _, v, h => by simp only [TN] at h
theorem TNs.tvs {K : PySem.W.Frag} {H : Hp} : ∀ (ks : List NestedKey) (vs : List V), TNs K H ks vs → TVs K H ks vs
  | [], vs, h => by simpa only [TNs, TVs] using h
  | k :: ks, vs, h => by
    simp only [TNs] at h
    simp only [TVs]
    obtain ⟨v, r, e, q, s⟩ := h
    exact ⟨v, r, e, TN.tv k v q, TNs.tvs ks r s⟩
end
mutual
theorem num_hash (w w' : World) : ∀ k : NestedKey, numK k = true → NestedKey.hash w k = NestedKey.hash w' k
  | .num i, _ => by simp only [NestedKey.hash]
  | .tup ks, h => by
    simp only [numK] at h
    simp only [NestedKey.hash, num_hashes w w' ks h]
  | .none, h => by simp only [numK] at h; cases h
  | .text _, h => by simp only [numK] at h; cases h
theorem num_hashes (w w' : World) : ∀ ks : List NestedKey, numKs ks = true → NestedKey.hashes w ks = NestedKey.hashes w' ks
  | [], _ => by simp only [NestedKey.hashes]
  | k :: ks, h => by
    simp only [numKs, Bool.and_eq_true] at h
    simp only [NestedKey.hashes, num_hash w w' k h.1, num_hashes w w' ks h.2]
end
section
variable {X : Cx} {pins : List (Addr × Obj)} {σ : L2.St} {H : Hp} {s : Shared}
theorem TN.key (I : Inv X pins σ H s) {b : Addr} {k : NestedKey} (h : TN X.K H k (.ref b)) (hd : k.depth ≤ 8) : (nestedKind X.prog X.w).is s.heap k b :=
  ⟨NI.nested _ _ (inv_ni I k _ _ (TN.tv _ _ h) rfl), hd⟩
theorem ents_anyU {P P' : Program} {w w' : World} {xs : List (NestedKey × Addr × Value)} (h : ∀ q ∈ xs, numK q.1 = true ∧ q.1.depth ≤ 8) : xs.map (entryOfKey (nestedKind P w)) = xs.map (entryOfKey (nestedKind P' w')) := by
  refine List.map_congr_left fun q hq => ?_
  obtain ⟨k, p⟩ := q
  show (⟨NestedKey.hash w k, .ref p.1, p.2⟩ : DictEntry) = ⟨NestedKey.hash w' k, .ref p.1, p.2⟩
  rw [num_hash w w' k (h _ hq).1]
theorem KUn.val {K : PySem.W.Frag} {kvs : List (NestedKey × V)} {xs : List (NestedKey × Addr × Value)} (r : KUn K H kvs xs) (k : NestedKey) : RelO (valV kvs k) ((atKey xs k).map (·.2)) := by
  induction r with
  | nil => exact True.intro
  | @cons p q ps qs h t ih =>
    obtain ⟨h1, _, h2⟩ := h
    by_cases e : p.1 = k
    · have b : atKey (q :: qs) k = some q.2 := by simp [atKey, List.find?_cons, h1.symm.trans e]
      rw [valV_pos e, b]; exact h2
    · have b : atKey (q :: qs) k = atKey qs k := by simp [atKey, List.find?_cons, show ¬ q.1 = k from fun z => e (h1.trans z)]
      rw [valV_neg e, b]; exact ih
theorem KUn.repl {K : PySem.W.Frag} {kvs : List (NestedKey × V)} {xs : List (NestedKey × Addr × Value)} (r : KUn K H kvs xs) (k : NestedKey) {y : V} {u : Value} (ry : RelV y u) :
    KUn K H (kvs.map fun kv => if kv.1 = k then (kv.1, y) else kv) (xs.map (putAt k u)) := by
  induction r with
  | nil => exact .nil
  | @cons p q ps qs h t ih =>
    rw [List.map_cons, List.map_cons]
    refine .cons ?_ ih
    obtain ⟨h1, h2, h3⟩ := h
    unfold putAt
    by_cases e : p.1 = k
    · rw [if_pos e, if_pos (h1.symm.trans e)]; exact ⟨h1, h2, ry⟩
    · rw [if_neg e, if_neg (fun z => e (h1.trans z))]; exact ⟨h1, h2, h3⟩
theorem KUn.put {K : PySem.W.Frag} {kvs : List (NestedKey × V)} {xs : List (NestedKey × Addr × Value)} (r : KUn K H kvs xs) (k : NestedKey) {b : Addr} {y : V} {u : Value} (hb : TN K H k (.ref b)) (ry : RelV y u) :
    KUn K H (putK kvs k y) (storedH xs k b u) := by
  have e : (kvs.any fun kv => decide (kv.1 = k)) = (atKey xs k).isSome := by
    rw [valV_any, (KUn.val r k).isSome_eq, Option.isSome_map]
  unfold putK storedH
  rw [e]
  by_cases q : (atKey xs k).isSome = true
  · rw [if_pos q, if_pos q]; exact KUn.repl r k ry
  · rw [if_neg q, if_neg q]; exact Paired.snoc r ⟨rfl, hb, ry⟩
theorem stored_num {xs : List (NestedKey × Addr × Value)} (h : ∀ q ∈ xs, numK q.1 = true ∧ q.1.depth ≤ 8) {k : NestedKey} (hk : numK k = true ∧ k.depth ≤ 8) (b : Addr) (u : Value) : ∀ q ∈ storedH xs k b u, numK q.1 = true ∧ q.1.depth ≤ 8 := by
  intro q hq
  unfold storedH at hq
  split at hq
  · obtain ⟨p, hp, rfl⟩ := List.mem_map.mp hq
    unfold putAt
    split
    · exact h p hp
    · exact h p hp
  · rcases List.mem_append.mp hq with hq | hq
    · exact h q hq
    · rw [List.mem_singleton.mp hq]; exact hk
theorem DuX.dict (I : Inv X pins σ H s) {a : Addr} {xs : List (NestedKey × Addr × Value)} {ws : List (NestedKey × V)} (h1 : H a = some (DUo a xs)) (h2 : KUn X.K H ws xs) (h3 : (xs.map (·.1)).Nodup) (h4 : ∀ q ∈ xs, numK q.1 = true ∧ q.1.depth ≤ 8) : s.heap.DictOfH (nestedKind X.prog X.w) a xs := by
  obtain ⟨⟨o, es, ep, e1, e2, e3, e4⟩, _⟩ := (show ObjOk X.prog X.w H s.heap a (DUo a xs) from I.hok a _ h1)
  refine ⟨o, es, ep, e1, e2, e3, e4 _ _, ?_, h3⟩
  have all : ∀ {l : List (NestedKey × V)} {m : List (NestedKey × Addr × Value)}, KUn X.K H l m → (∀ q ∈ m, numK q.1 = true ∧ q.1.depth ≤ 8) → ∀ x ∈ m, (nestedKind X.prog X.w).is s.heap x.1 x.2.1 := by
    intro l m q
    induction q with
    | nil => intro _ x hx; exact nomatch hx
    | @cons p q ps qs hq t ih =>
      intro h4 x hx
      rcases List.mem_cons.mp hx with e | hx
      · subst e
        exact TN.key I (by rw [← hq.1]; exact hq.2.1) (h4 _ List.mem_cons_self).2
      · exact ih (fun q z => h4 q (List.mem_cons_of_mem _ z)) x hx
  exact all h2 h4
def sDPutU (K : PySem.W.Frag) (td ty tv : TE) : TS := fun D σ H => tv σ H fun v H1 => td σ H1 fun x H2 => ty σ H2 fun y H3 => ∃ (a : Addr) (ws : List (NestedKey × V)) (k : NestedKey) (b : Addr), x = .ref a ∧ y = .ref b ∧ (DuX K H3 a ws ∨ (H3 a = some (.dK []) ∧ ws = [])) ∧
  TN K H3 k (.ref b) ∧ (numK k = true ∧ k.depth ≤ 8) ∧ ws.length < sizeLine ∧ ∀ u, DuX K (upd H3 a u) a (putK ws k v) → D.nx σ (upd H3 a u)
theorem ps_dputU {o i e : Expr} {td ty tv : TE} {pos pos' : Pos} (hu : X.A.units + 64 < cLine) (ho : PE X o td) (hi : PE X i ty) (hv : PE X e tv) (hs : swapsWith e (some (.Subscript o i pos')) pos.line X.env = pure false) :
    PS X (.Assign [.Subscript o i pos'] e pos) (sDPutU X.K td ty tv) := by
  refine ⟨fun pins s σ H D I h => ?_⟩
  refine wpAny_Assign_Subscript (thn (hv.run pins s σ H _ I h) fun r s1 ⟨v, H1, I1, rv, q1⟩ => thn (ho.run pins s1 σ H1 _ I1 q1) fun u s2 ⟨x, H2, I2, rx, q2⟩ => thn (hi.run pins s2 σ H2 _ I2 q2) fun iv s3 ⟨y, H3, I3, ry, a, ws, k, b, ex, ey, hd, hb, hk, hl, q3⟩ => ?_) hs
  subst ex ey
  obtain rfl : u = Value.ref a := rx
  obtain rfl : iv = Value.ref b := ry
  obtain ⟨xs, h0, hm, hf, h2, h3, h4, dd⟩ : ∃ xs, (a == sysModules) = false ∧ Mut (H3 a) ∧ (∀ x y, H3 a ≠ some (.frz x y)) ∧ KUn X.K H3 ws xs ∧ (xs.map (·.1)).Nodup ∧ (∀ q ∈ xs, numK q.1 = true ∧ q.1.depth ≤ 8) ∧ s3.heap.DictOfH (nestedKind X.prog X.w) a xs := by
    rcases hd with ⟨h0, xs, h1, h2, h3, h4⟩ | ⟨h1, rfl⟩
    · exact ⟨xs, h0, (by rw [h1]; exact True.intro), (fun _ _ z => by rw [h1] at z; cases z), h2, h3, h4, DuX.dict I3 h1 h2 h3 h4⟩
    · obtain ⟨_, h0, vs, r, o, es, ep, e1, e2, e3, e4, e5⟩ := dk_of I3.hok h1
      cases r
      refine ⟨[], h0, (by rw [h1]; exact True.intro), (fun _ _ z => by rw [h1] at z; cases z), .nil, List.nodup_nil, fun q hq => (List.not_mem_nil hq).elim, o, es, ep, e1, e2, e3, ?_, fun q hq => (List.not_mem_nil hq).elim, List.nodup_nil⟩
      cases h : es.toList with
      | nil => rfl
      | cons x y => have q := e5.1; rw [h] at q; exact nomatch q
  have hz : xs.length ≤ sizeLine := by rw [← Paired.length h2]; exact Nat.le_of_lt hl
  refine wpAny_setItem_heap (hsz := hz) (knd := nestedKind X.prog X.w) (by show X.A.in1.units + 8 < cLine; simp only [Around.in1_units]; omega) (TN.key I3 hb hk.2) dd fun h' dd' hsame => ?_
  obtain ⟨q, es, ep, hq, g2, g3, g4, _, g5⟩ := dd'
  have hi4 := stored_num h4 hk b r
  have ob : ObjOk X.prog X.w (upd H3 a (DUo a (storedH xs k b r))) h' a (DUo a (storedH xs k b r)) := by
    refine ⟨⟨q, es, ep, hq, g2, g3, fun P w => g4.trans (ents_anyU hi4)⟩, ⟨q, hq⟩, ?_⟩
    rintro k1 k2 ⟨o, es, ep, e1, e2⟩ st
    exact ⟨o, es, ep, st _ e1, e2⟩
  exact ⟨σ, _, d_write I3 hm hsame ⟨q, hq⟩ ob, q3 _ ⟨h0, _, upd_same, Paired.mapP (KUn.put h2 k hb rv) fun _ _ z => ⟨z.1, TN.keep (fun _ _ w => sqN_upd hf w) _ _ z.2.1, z.2.2⟩, g5, hi4⟩⟩
def rListU (K : PySem.W.Frag) : List V → Hp → VK → Prop := fun xs H Q => ∃ a ws, xs = [V.ref a] ∧ DuX K H a ws ∧ ws.length ≤ sizeLine ∧
  ∀ (bs : List Addr), Paired (fun (p : NestedKey × V) (b : Addr) => TN K H p.1 (.ref b)) ws bs → ∀ l, H l = none → Q (.ref l) (upd H l (.lst (bs.map V.ref)))
theorem vals_refs : ∀ bs : List Addr, Vals (bs.map V.ref) (bs.map Value.ref)
  | [] => .nil
  | b :: bs => .cons rfl (vals_refs bs)
theorem KUn.addrs {K : PySem.W.Frag} {kvs : List (NestedKey × V)} {xs : List (NestedKey × Addr × Value)} (r : KUn K H kvs xs) : Paired (fun (p : NestedKey × V) (b : Addr) => TN K H p.1 (.ref b)) kvs (xs.map fun q => q.2.1) := by
  induction r with
  | nil => exact .nil
  | @cons p q ps qs h t ih => exact .cons h.2.1 ih
theorem cr_listU (hc : X.calm = true) : CallR X (.type "list") (rListU X.K) := by
  intro pins s σ H xs us Q I r h
  obtain ⟨a, ws, rfl, ⟨h0, ys, h1, h2, h3, h4⟩, hz, q⟩ := h
  rw [Vals.ref1 r]
  obtain ⟨o, es, ep, e1, e2, e3, e4, _⟩ := DuX.dict I h1 h2 h3 h4
  have hlen : es.size = ys.length := by rw [← Array.length_toList, e4, List.length_map]
  have hws : ws.length = ys.length := Paired.length h2
  refine PySem.W.kdl_call (prog := X.prog) (w := X.w) (PySem.KdlSrc.rawDict (es := es) (ep := ep) h0) (I.ok.hd hc) ⟨o, e1, e2, e3⟩ (by rw [hlen, ← hws]; exact hz) fun h' tk acc c k e it => ?_
  have hacc : acc.toList = (ys.map fun q => q.2.1).map Value.ref := by
    apply List.ext_getElem?
    intro j
    rw [List.getElem?_map, List.getElem?_map, Array.getElem?_toList]
    cases hj : acc[j]? with
    | none =>
      have : acc.size ≤ j := by
        rcases Nat.lt_or_ge j acc.size with z | z
        · rw [Array.getElem?_eq_getElem z] at hj; cases hj
        · exact z
      rw [it.1, hlen] at this
      rw [List.getElem?_eq_none this]; rfl
    | some v =>
      obtain ⟨hi, ev⟩ := it.2 j v hj
      have hj2 : j < ys.length := by rw [← hlen]; exact hi
      have hl2 : j < es.toList.length := by rw [Array.length_toList]; exact hi
      have e5 : es[j] = entryOfKey (nestedKind X.prog X.w) ys[j] := by
        have z : es.toList[j]? = some (entryOfKey (nestedKind X.prog X.w) ys[j]) := by rw [e4, List.getElem?_map, List.getElem?_eq_getElem hj2]; rfl
        rw [Array.getElem?_toList, Array.getElem?_eq_getElem hi] at z
        exact Option.some.inj z
      rw [List.getElem?_eq_getElem hj2, ev, e5]
      rfl
  have hn : H s.heap.objs.size = none := I.hok.fresh (Nat.le_refl _)
  refine ⟨.ref s.heap.objs.size, _, I.laid (t' := tk) (o := .lst ((ys.map fun q => q.2.1).map V.ref)) k (Nat.le_refl _) ⟨by rw [List.length_map, List.length_map, ← hws]; exact hz, acc.toList, c, by rw [hacc]; exact vals_refs _, by rw [Array.toArray_toList]; exact e⟩, rfl, q _ (KUn.addrs h2) _ hn⟩
end
def keyN (y : Va) : Option NestedKey := (keyV y).bind fun k => match k with
  | .tup ks => if numK (.tup ks) && decide ((NestedKey.tup ks).depth ≤ 8) then some (.tup ks) else none
  | _ => none
section
variable {g : Gd} {ρ : List Addr} {H : Hp}
mutual
theorem rv_tn : ∀ (x : Va) (k : NestedKey) (v : V), keyV x = some k → Rv g ρ H x v → TN g.K H k v
  | .int i, k, v, e, r => by simp only [keyV] at e; cases e; simp only [Rv] at r; simp only [TN]; exact r
  | .tup xs, k, v, e, r => by
    simp only [keyV] at e
    obtain ⟨ks, h, rfl⟩ := Option.map_eq_some_iff.mp e
    simp only [Rv] at r
    obtain ⟨a, vs, rfl, q, r2⟩ := r
    simp only [TN]
    exact ⟨a, vs, rfl, q, rvs_tns xs ks vs h r2⟩
  | .non, k, v, e, r => by simp only [keyV] at e; cases e
  | .bl _, k, v, e, r => by simp only [keyV] at e; cases e
  | .str _, k, v, e, r => by simp only [keyV] at e; cases e
  | .ty _, k, v, e, r => by simp only [keyV] at e; cases e
  | .gl _, k, v, e, r => by simp only [keyV] at e; cases e
  | .scr, k, v, e, r => by simp only [keyV] at e; cases e
  | .exc _, k, v, e, r => by simp only [keyV] at e; cases e
  | .ref _, k, v, e, r => by simp only [keyV] at e; cases e
theorem rvs_tns : ∀ (xs : List Va) (ks : List NestedKey) (vs : List V), keysV xs = some ks → Rvs g ρ H xs vs → TNs g.K H ks vs
  | [], ks, vs, e, r => by simp only [keysV] at e; cases e; simp only [Rvs] at r; simp only [TNs]; exact r
  | x :: xs, ks, vs, e, r => by
    simp only [keysV] at e
    split at e
    · rename_i k hk
      split at e
      · rename_i t ht
        cases e
        simp only [Rvs] at r
        obtain ⟨v, u, rfl, r1, r2⟩ := r
        simp only [TNs]
        exact ⟨v, u, rfl, rv_tn x k v hk r1, rvs_tns xs t u ht r2⟩
      · cases e
    · cases e
end
mutual
theorem tn_rv : ∀ (k : NestedKey) (v : V), TN g.K H k v → Rv g ρ H (vaK k) v
  | .num i, v, h => by simp only [TN] at h; simp only [vaK, Rv]; exact h
  | .tup ks, v, h => by
    simp only [TN] at h
    obtain ⟨a, vs, e, q, r⟩ := h
    simp only [vaK, Rv]
    exact ⟨a, vs, e, q, tns_rvs ks vs r⟩
  | .none, v, h => by simp only [TN] at h
  | .text _, v, h => by simp only [TN] at h
theorem tns_rvs : ∀ (ks : List NestedKey) (vs : List V), TNs g.K H ks vs → Rvs g ρ H (vaKs ks) vs
  | [], vs, h => by simp only [TNs] at h; simp only [vaKs, Rvs]; exact h
  | k :: ks, vs, h => by
    simp only [TNs] at h
    obtain ⟨v, r, e, q, s⟩ := h
    simp only [vaKs, Rvs]
    exact ⟨v, r, e, tn_rv k v q, tns_rvs ks r s⟩
end
theorem keyN_rv {y : Va} {v : V} {k : NestedKey} (r : Rv g ρ H y v) (e : keyN y = some k) : ∃ b, v = .ref b ∧ TN g.K H k (.ref b) ∧ numK k = true ∧ k.depth ≤ 8 := by
  unfold keyN at e
  obtain ⟨k', h, e⟩ := Option.bind_eq_some_iff.mp e
  have t := rv_tn y k' v h r
  split at e
  · rename_i ks
    split at e
    · rename_i hk
      cases e
      rw [Bool.and_eq_true, decide_eq_true_eq] at hk
      have t' := t
      simp only [TN] at t'
      obtain ⟨a, vs, rfl, _⟩ := t'
      exact ⟨a, rfl, t, hk.1, hk.2⟩
    · cases e
  · cases e
end
def kPutN (o i v : Va) (h : Hs) : Option Hs := match o with
  | .ref r => match h[r]? with
    | some (.dU kvs) => if decide (kvs.length < 1000) then (keyN i).map fun k => h.set r (.dU (pK kvs k v)) else none
    | some (.dK []) => (keyN i).map fun k => h.set r (.dU [(k, v)])
    | _ => none
  | _ => none
section
variable {g : Gd} {X : Cx} {W : WX} {n : Nat} {pos : Pos}
theorem s_putN {o i e : Expr} {pos' : Pos} {fo fi fv : De} (ho : SE g X W n o fo) (hi : SE g X W n i fi) (hv : SE g X W n e fv)
    (hs : swapsWith e (some (.Subscript o i pos')) pos.line X.env = pure false := by rfl) : SS g X W n (.Assign [.Subscript o i pos'] e pos) (dPutK kPutN fo fi fv) := by
  intro C
  have hK := C.K
  have p := ps_dputU (pos := pos) (pos' := pos') (by have := C.units; omega) (ho C) (hi C) (hv C) hs
  rw [hK] at p
  refine p.imp ?_
  rintro D σ H ⟨ρ, s, hp, R, L, h⟩
  refine bS h R L fun v h1 ρ1 H1 x S1 R1 r1 L1 p1 => bS p1 R1 L1 fun o h2 ρ2 H2 y S2 R2 r2 L2 p2 => bS p2 R2 L2 fun i h3 ρ3 H3 z S3 R3 r3 L3 p3 => ?_
  split at p3
  · rename_i h4 hk
    unfold kPutN at hk
    split at hk
    · rename_i r
      have r2' := Rv.step R2 S3 _ _ r2
      have r1' := Rv.step R2 S3 _ _ (Rv.step R1 S2 _ _ r1)
      simp only [Rv] at r2'
      obtain ⟨a, ha, rfl⟩ := r2'
      split at hk
      · rename_i kvs hx
        by_cases hl : kvs.length < 1000
        · rw [if_pos (decide_eq_true hl)] at hk
          obtain ⟨k, hj, rfl⟩ := Option.map_eq_some_iff.mp hk
          obtain ⟨ws, e2, rk⟩ := R3.obj r a _ ha hx
          obtain ⟨b, rfl, hb, hnd⟩ := keyN_rv r3 hj
          refine ⟨a, ws, k, b, rfl, rfl, .inl e2, hb, hnd, by rw [← rk.length, sizeLine_eq]; omega, fun u du => ?_⟩
          obtain ⟨_, xs, e3, _⟩ := e2
          obtain ⟨S4, R4⟩ := R3.put (u := u) (o := .dU (pK kvs k v)) ha (fun _ _ z => by rw [e3] at z; cases z) fun S => ⟨_, du, Rkv.step R3 S _ _ (rk.put r1' k)⟩
          exact p3 ρ3 _ σ S4 R4 (L3.step R3 S4)
        · rw [if_neg (fun z => hl (of_decide_eq_true z))] at hk; cases hk
      · rename_i hx
        obtain ⟨k, hj, rfl⟩ := Option.map_eq_some_iff.mp hk
        obtain ⟨ws, e2, rk⟩ := R3.obj r a _ ha hx
        cases rk
        obtain ⟨b, rfl, hb, hnd⟩ := keyN_rv r3 hj
        refine ⟨a, [], k, b, rfl, rfl, .inr ⟨e2, rfl⟩, hb, hnd, by rw [sizeLine_eq]; decide, fun u du => ?_⟩
        obtain ⟨S4, R4⟩ := R3.put (u := u) (o := .dU [(k, v)]) ha (fun _ _ z => by rw [e2] at z; cases z) fun S => ⟨_, du, ⟨_, _, rfl, Rv.step R3 S _ _ r1', rfl⟩⟩
        exact p3 ρ3 _ σ S4 R4 (L3.step R3 S4)
      · cases hk
    · cases hk
  · exact p3.elim
def kListU : K1 := fun xs h => match xs with
  | [.ref r] => match h[r]? with
    | some (.dU kvs) => if decide (kvs.length < 1000) then some (.ref h.length, h ++ [.lst (kvs.map fun p => vaK p.1)]) else none
    | _ => none
  | _ => none
theorem c_listU : CallC g (.type "list") (rListU g.K) := fun X hK hc _ => hK ▸ cr_listU hc
theorem paired_rvs {ρ : List Addr} {H : Hp} : ∀ {kvs : List (NestedKey × Va)} {ws : List (NestedKey × V)} {bs : List Addr}, Rkv g ρ H kvs ws → Paired (fun (p : NestedKey × V) (b : Addr) => TN g.K H p.1 (.ref b)) ws bs → Rvs g ρ H (kvs.map fun p => vaK p.1) (bs.map V.ref)
  | [], _, _, h, q => by
    cases h
    cases q
    exact Rvs.nil
  | (k, x) :: kvs, _, _, h, q => by
    obtain ⟨v, r, rfl, _, h2⟩ := h
    cases q with
    | cons q1 q2 => exact Rvs.cons (tn_rv k _ q1) (paired_rvs h2 q2)
theorem p_listU : PC1 g (rListU g.K) kListU := by
  intro ρ H hp xs vs v h' Q R r e q
  unfold kListU at e
  split at e
  · rename_i i
    split at e
    · rename_i kvs hx
      by_cases hl : kvs.length < 1000
      · rw [if_pos (decide_eq_true hl)] at e
        cases e
        obtain ⟨w, rfl, rw'⟩ := r.inv1
        simp only [Rv] at rw'
        obtain ⟨a, ha, rfl⟩ := rw'
        obtain ⟨ws, e2, rk⟩ := R.obj i a _ ha hx
        refine ⟨a, ws, rfl, e2, by rw [← rk.length, sizeLine_eq]; omega, fun bs pb l hn => ?_⟩
        obtain ⟨S4, R4, r4⟩ := new_lst R hn (paired_rvs rk pb)
        exact q _ _ _ S4 R4 r4
      · rw [if_neg (fun z => hl (of_decide_eq_true z))] at e; cases e
    · cases e
  · cases e
end
end Wr
set_option Elab.async false
set_option linter.all false
set_option maxRecDepth 100000
set_option maxHeartbeats 4000000
set_option autoImplicit false
namespace Pg
open PySem PySem.Spec PyProof.Rows L2 Wr
def c_COUPLES : Va := (.tup [(.tup [(.int 0), (.int 1)]), (.tup [(.int 0), (.int 2)]), (.tup [(.int 1), (.int 2)])])
def c_GREATEST : Va := (.int 99)
def c_THINGS : Va := (.tup [(.int 0), (.int 1), (.int 2)])
def c_WISHES : Va := (.tup [(.tup [(.int 0), (.int 1), (.int 2)]), (.tup [(.int 0), (.int 2), (.int 1)]), (.tup [(.int 1), (.int 0), (.int 2)]), (.tup [(.int 1), (.int 2), (.int 0)]), (.tup [(.int 2), (.int 0), (.int 1)]), (.tup [(.int 2), (.int 1), (.int 0)])])
def D_is_whole : Fn := fnD 3
    (dRet (dAndV (dB kIsi (aCons (dVar 0) (aCons (dC (.ty "int")) aNil))) (dAndV (dNotV (dB kIsi (aCons (dVar 0) (aCons (dC (.ty "bool")) aNil)))) (dChain kLe kLe (dVar 1) (dVar 0) (dVar 2)))))
def D_is_book (F_is_whole : Fn) : Fn := fnD 2
    (dRet (dAndV (dB kIsi (aCons (dVar 0) (aCons (dC (.ty "tuple")) aNil))) (dAndV (dOp kEq (dB kLen (aCons (dVar 0) aNil)) (dC (.int 6))) (dB kAll (aCons (dComp [1] (dIt (dVar 0)) (.nm 1) dYes (dCall F_is_whole 3 (aCons (dVar 1) (aCons (dC (.int 0)) (aCons (dC c_GREATEST) aNil))))) aNil)))))
def D_look_book (F_is_book : Fn) : Fn := fnD 1
    (dIfS (dNot (dTest (dCall F_is_book 1 (aCons (dVar 0) aNil)))) (dRaise 1) dNx)
def D_size (F_look_book : Fn) : Fn := fnD 1
    (dSeq (dExpr (dCall F_look_book 1 (aCons (dVar 0) aNil)))
    (dRet (dB kSumA (aCons (dVar 0) aNil))))
def D__law_cell (ns : List Int) : Fn := fnD 2
    (dSeq (dIfS (dTest (dOp kLt (dVar 1) (dB (kLenS ns) (aCons (dVar 0) aNil)))) (dRet (dOp (kIxS ns) (dVar 0) (dVar 1))) dNx)
    (dSeq (dIfS (dTest (dOp (kEqS ns) (dVar 0) (dLst aNil))) (dRet (dC (.int 0))) dNx)
    (dRet (dOp kAdd (dOp kMul (dOp (kIxS ns) (dVar 0) (dOp kMod (dVar 1) (dB (kLenS ns) (aCons (dVar 0) aNil)))) (dC (.int 31))) (dVar 1)))))
def D__law_pick (F__law_cell : Fn) : Fn := fnD 4
    (dSeq (dSet 3 (dOp kMod (dOp kMul (dOp kAdd (dCall F__law_cell 2 (aCons (dVar 0) (aCons (dVar 1) aNil))) (dOp kMul (dC (.int 6151)) (dOp kAdd (dVar 1) (dC (.int 1))))) (dC (.int 40692))) (dC (.int 2147483399))))
    (dRet (dOp kMod (dOp kMod (dOp kAdd (dOp kMul (dVar 3) (dVar 3)) (dOp kFdivW (dVar 3) (dC (.int 31)))) (dC (.int 2147483629))) (dVar 2))))
def D__law_wishes : Fn := fnD 0
    (dRet (dLst (aCons (dTup (aCons (dC (.int 0)) (aCons (dC (.int 1)) (aCons (dC (.int 2)) aNil)))) (aCons (dTup (aCons (dC (.int 0)) (aCons (dC (.int 2)) (aCons (dC (.int 1)) aNil)))) (aCons (dTup (aCons (dC (.int 1)) (aCons (dC (.int 0)) (aCons (dC (.int 2)) aNil)))) (aCons (dTup (aCons (dC (.int 1)) (aCons (dC (.int 2)) (aCons (dC (.int 0)) aNil)))) (aCons (dTup (aCons (dC (.int 2)) (aCons (dC (.int 0)) (aCons (dC (.int 1)) aNil)))) (aCons (dTup (aCons (dC (.int 2)) (aCons (dC (.int 1)) (aCons (dC (.int 0)) aNil)))) aNil))))))))
def is_whole : Fn := D_is_whole
def is_book : Fn := D_is_book is_whole
def look_book : Fn := D_look_book is_book
def size : Fn := D_size look_book
def _law_cell (ns : List Int) : Fn := D__law_cell ns
def _law_pick (ns : List Int) : Fn := D__law_pick (_law_cell ns)
def _law_wishes : Fn := D__law_wishes
def D_is_wish (F_is_whole : Fn) : Fn := fnD 2
    (dSeq (dIfS (dOr (dNot (dTest (dB kIsi (aCons (dVar 0) (aCons (dC (.ty "tuple")) aNil))))) (dOr (dTest (dOp kNe (dB kLen (aCons (dVar 0) aNil)) (dC (.int 3)))) (dNot (dTest (dB kAll (aCons (dComp [1] (dIt (dVar 0)) (.nm 1) dYes (dCall F_is_whole 3 (aCons (dVar 1) (aCons (dC (.int 0)) (aCons (dC (.int 2)) aNil))))) aNil)))))) (dRet (dC (.bl false))) dNx)
    (dRet (dOp kIn (dVar 0) (dC c_WISHES))))
def D_turned (F_look_book : Fn) : Fn := fnD 2
    (dSeq (dExpr (dCall F_look_book 1 (aCons (dVar 0) aNil)))
    (dRet (dB kTuple (aCons (dComp [1] (dIt (dC c_WISHES)) (.nm 1) dYes (dOp kIxU (dVar 0) (dM2 "tuple" kIndexT "list" kIndexL (dC c_WISHES) (aCons (dRev (dVar 1)) aNil)))) aNil))))
def D_renamed (F_look_book : Fn) (F_is_wish : Fn) : Fn := fnD 6
    (dSeq (dExpr (dCall F_look_book 1 (aCons (dVar 0) aNil)))
    (dSeq (dIfS (dNot (dTest (dCall F_is_wish 1 (aCons (dVar 1) aNil)))) (dRaise 5) dNx)
    (dSeq (dSet 2 dNewD)
    (dSeq (dForC [1, 2] (dZipS (aCons (dC c_WISHES) (aCons (dVar 0) aNil))) (.tp [3, 4]) (dPutK kPutX (dVar 2) (dB kTuple (aCons (dComp [5] (dIt (dVar 3)) (.nm 5) dYes (dOp kIxU (dVar 1) (dVar 5))) aNil)) (dVar 4)))
    (dRet (dB kTuple (aCons (dComp [3] (dIt (dC c_WISHES)) (.nm 3) dYes (dOp kDgX (dVar 2) (dVar 3))) aNil)))))))
def D_ahead_in : Fn := fnD 5
    (dRet (dB kSumA (aCons (dComp [3, 4] (dZipS (aCons (dC c_WISHES) (aCons (dVar 0) aNil))) (.tp [3, 4]) (dTest (dOp kLt (dM2 "tuple" kIndexT "list" kIndexL (dVar 3) (aCons (dVar 1) aNil)) (dM2 "tuple" kIndexT "list" kIndexL (dVar 3) (aCons (dVar 2) aNil)))) (dVar 4)) aNil)))
def is_wish : Fn := D_is_wish is_whole
def turned : Fn := D_turned look_book
def renamed : Fn := D_renamed look_book is_wish
def ahead_in : Fn := D_ahead_in
def D_more (F_ahead_in : Fn) : Fn := fnD 3
    (dRet (dOp kSub (dCall F_ahead_in 3 (aCons (dVar 0) (aCons (dVar 1) (aCons (dVar 2) aNil)))) (dCall F_ahead_in 3 (aCons (dVar 0) (aCons (dVar 2) (aCons (dVar 1) aNil))))))
def D__law_rule (F__law_pick : Fn) (F__law_rule : Fn) : Fn := fnD 7
    (dSeq (dSet 3 (dCall F__law_pick 3 (aCons (dVar 0) (aCons (dVar 1) (aCons (dC (.int 8)) aNil)))))
    (dSeq (dIfS (dAnd (dTest (dOp kGt (dVar 3) (dC (.int 2)))) (dTest (dOp kGt (dVar 2) (dC (.int 1))))) (dSeq (dSet 4 (dCall F__law_rule 3 (aCons (dVar 0) (aCons (dOp kAdd (dVar 1) (dC (.int 5))) (aCons (dOp kSub (dVar 2) (dC (.int 1))) aNil)))))
    (dSeq (dIfS (dTest (dOp kLt (dVar 3) (dC (.int 6)))) (dRet (dTup (aCons (dOp kIxU (dLst (aCons (dC (.str (Str.mk #[111, 117, 116]))) (aCons (dC (.str (Str.mk #[111, 117, 116]))) (aCons (dC (.str (Str.mk #[98, 97, 99, 107]))) aNil)))) (dOp kSub (dVar 3) (dC (.int 3)))) (aCons (dVar 4) aNil)))) dNx)
    (dRet (dTup (aCons (dC (.str (Str.mk #[116, 104, 101, 110]))) (aCons (dVar 4) (aCons (dCall F__law_rule 3 (aCons (dVar 0) (aCons (dOp kAdd (dOp kAdd (dVar 1) (dC (.int 5))) (dOp kIxU (dLst (aCons (dC (.int 0)) (aCons (dC (.int 5)) (aCons (dC (.int 15)) aNil)))) (dOp kSub (dVar 2) (dC (.int 1))))) (aCons (dOp kSub (dVar 2) (dC (.int 1))) aNil)))) aNil))))))) dNx)
    (dSeq (dIfS (dTest (dOp kLt (dOp kMod (dVar 3) (dC (.int 4))) (dC (.int 2)))) (dRet (dOp kIxU (dLst (aCons (dTup (aCons (dC (.str (Str.mk #[100, 117, 101, 108, 115]))) aNil)) (aCons (dTup (aCons (dC (.str (Str.mk #[119, 111, 114, 115, 116]))) aNil)) aNil))) (dOp kMod (dVar 3) (dC (.int 4))))) dNx)
    (dSeq (dSet 5 (dLst (aCons (dTup (aCons (dC (.int 2)) (aCons (dC (.int 1)) (aCons (dC (.int 0)) aNil)))) (aCons (dTup (aCons (dC (.int 1)) (aCons (dC (.int 0)) (aCons (dC (.int 0)) aNil)))) (aCons (dTup (aCons (dC (.int 1)) (aCons (dC (.int 1)) (aCons (dC (.int 0)) aNil)))) (aCons (dB kTuple (aCons (dComp [6] (dRng1 (aCons (dC (.int 3)) aNil)) (.nm 6) dYes (dCall F__law_pick 3 (aCons (dVar 0) (aCons (dOp kAdd (dOp kAdd (dVar 1) (dC (.int 1))) (dVar 6)) (aCons (dC (.int 10)) aNil))))) aNil)) aNil))))))
    (dRet (dTup (aCons (dC (.str (Str.mk #[112, 111, 105, 110, 116, 115]))) (aCons (dOp kIxU (dVar 5) (dCall F__law_pick 3 (aCons (dVar 0) (aCons (dOp kAdd (dVar 1) (dC (.int 4))) (aCons (dC (.int 4)) aNil))))) aNil))))))))
def more : Fn := D_more ahead_in
def _law_rule (ns : List Int) : Nat → Fn
  | 0 => noF
  | d + 1 => D__law_rule (_law_pick ns) (_law_rule ns d)
def D_all_books : Fn := fnD 6
    (dSeq (dSet 1 (dLst (aCons (dTup aNil) aNil)))
    (dSeq (dForC [0, 1] (dRng1 (aCons (dC (.int 5)) aNil)) (.nm 2) (dSeq (dSet 3 (dLst aNil))
    (dSeq (dForC [0, 3] (dIt (dVar 1)) (.nm 4) (dExpr (dM "list" kExtend (dVar 3) (aCons (dComp [5] (dRng1 (aCons (dOp kAdd (dOp kSub (dVar 0) (dB kSumA (aCons (dVar 4) aNil))) (dC (.int 1))) aNil)) (.nm 5) dYes (dOp kAdd (dVar 4) (dTup (aCons (dVar 5) aNil)))) aNil))))
    (dSet 1 (dVar 3)))))
    (dRet (dComp [4] (dIt (dVar 1)) (.nm 4) dYes (dOp kAdd (dVar 4) (dTup (aCons (dOp kSub (dVar 0) (dB kSumA (aCons (dVar 4) aNil))) aNil)))))))
def D_pairs : Fn := fnD 3
    (dSeq (dSet 0 (dLst aNil))
    (dSeq (dForC [0] (dIt (dC c_THINGS)) (.nm 1) (dExpr (dM "list" kExtend (dVar 0) (aCons (dComp [2] (dIt (dC c_THINGS)) (.nm 2) (dTest (dOp kNe (dVar 2) (dVar 1))) (dTup (aCons (dVar 1) (aCons (dVar 2) aNil)))) aNil))))
    (dRet (dVar 0))))
def D_lesser_books (F_all_books : Fn) : Fn := fnD 4
    (dSeq (dSet 1 (dLst aNil))
    (dSeq (dForC [1] (dRng2 (aCons (dC (.int 1)) (aCons (dOp kAdd (dB kSumA (aCons (dVar 0) aNil)) (dC (.int 1))) aNil))) (.nm 2) (dExpr (dM "list" kExtend (dVar 1) (aCons (dComp [3] (dIt (dCall F_all_books 1 (aCons (dVar 2) aNil))) (.nm 3) dYes (dTup (aCons (dVar 3) aNil))) aNil))))
    (dRet (dVar 1))))
def D_cases (F_pairs : Fn) (F_lesser_books : Fn) : Fn := fnD 7
    (dSeq (dIfS (dTest (dOp kEq (dVar 0) (dC (.str (Str.mk #[110, 97, 109, 101, 115]))))) (dRet (dComp [2] (dIt (dC c_WISHES)) (.nm 2) dYes (dTup (aCons (dVar 2) aNil)))) dNx)
    (dSeq (dIfS (dTest (dOp kEq (dVar 0) (dC (.str (Str.mk #[97, 108, 108]))))) (dRet (dCall0 F_pairs)) dNx)
    (dSeq (dIfS (dTest (dOp kEq (dVar 0) (dC (.str (Str.mk #[108, 105, 102, 116, 101, 100]))))) (dSeq (dSet 3 (dLst aNil))
    (dSeq (dForC [1, 3] (dRng1 (aCons (dC (.int 6)) aNil)) (.nm 4) (dIfS (dTest (dOp kGt (dOp kIxU (dVar 1) (dVar 4)) (dC (.int 0)))) (dExpr (dM "list" kExtend (dVar 3) (aCons (dComp [5] (dIt (dC c_THINGS)) (.nm 5) (dTest (dOp kNe (dOp kIxU (dOp kIxU (dC c_WISHES) (dVar 4)) (dC (.int 0))) (dVar 5))) (dTup (aCons (dVar 4) (aCons (dVar 5) aNil)))) aNil))) dNx))
    (dRet (dVar 3)))) dNx)
    (dSeq (dIfS (dTest (dOp kEq (dVar 0) (dC (.str (Str.mk #[106, 111, 105, 110, 101, 100]))))) (dRet (dCall F_lesser_books 1 (aCons (dVar 1) aNil))) dNx)
    (dSeq (dIfS (dTest (dOp kEq (dVar 0) (dC (.str (Str.mk #[115, 116, 97, 121, 115, 32, 97, 119, 97, 121]))))) (dRet (dComp [4, 5] (dEnum (aCons (dComp [6] (dIt (dC c_WISHES)) (.nm 6) dYes (dOp kIxU (dVar 6) (dC (.int 0)))) aNil)) (.tp [4, 5]) dYes (dTup (aCons (dVar 4) (aCons (dVar 5) aNil))))) dNx)
    (dRet (dLst (aCons (dTup aNil) aNil))))))))
def all_books : Fn := D_all_books
def pairs : Fn := D_pairs
def lesser_books : Fn := D_lesser_books all_books
def cases : Fn := D_cases pairs lesser_books
def D_how_many_books : Fn := fnD 3
    (dSeq (dSet 1 (dC (.int 1)))
    (dSeq (dForC [0, 1] (dRng1 (aCons (dC (.int 5)) aNil)) (.nm 2) (dSet 1 (dOp kMul (dVar 1) (dOp kAdd (dOp kAdd (dVar 0) (dVar 2)) (dC (.int 1))))))
    (dRet (dOp kFdivW (dVar 1) (dC (.int 120))))))
def how_many_books : Fn := D_how_many_books
def D_swaps_of : Fn := fnD 4
    (dRet (dB kLen (aCons (dComp [2, 3] (dIt (dC c_COUPLES)) (.tp [2, 3]) (dTest (dOp kNe (dOp kLt (dM2 "tuple" kIndexT "list" kIndexL (dVar 0) (aCons (dVar 2) aNil)) (dM2 "tuple" kIndexT "list" kIndexL (dVar 0) (aCons (dVar 3) aNil))) (dOp kLt (dM2 "tuple" kIndexT "list" kIndexL (dVar 1) (aCons (dVar 2) aNil)) (dM2 "tuple" kIndexT "list" kIndexL (dVar 1) (aCons (dVar 3) aNil))))) (dC (.int 1))) aNil)))
def D_swaps (F_is_wish : Fn) (F_swaps_of : Fn) : Fn := fnD 2
    (dSeq (dIfS (dOr (dNot (dTest (dCall F_is_wish 1 (aCons (dVar 0) aNil)))) (dNot (dTest (dCall F_is_wish 1 (aCons (dVar 1) aNil))))) (dRaise 5) dNx)
    (dRet (dCall F_swaps_of 2 (aCons (dVar 0) (aCons (dVar 1) aNil)))))
def swaps_of : Fn := D_swaps_of
def swaps : Fn := D_swaps is_wish swaps_of
end Pg
set_option Elab.async false
set_option linter.all false
set_option maxRecDepth 100000
set_option maxHeartbeats 4000000
set_option autoImplicit false
namespace Wr
open PySem PySem.Spec PyProof.Rows L2
section
variable {α β : Type} (s : Sg) (h : Hs)
@[simp] theorem ev_bind_ok (a : α) (k : α → Hs → Rs β) : (Rs.ok a h).bind k = k a h := rfl
@[simp] theorem ev_bind_ex (c : Nat) (k : α → Hs → Rs β) : (Rs.ex c h : Rs α).bind k = .ex c h := rfl
@[simp] theorem ev_bind_no (k : α → Hs → Rs β) : (Rs.no : Rs α).bind k = .no := rfl
@[simp] theorem ev_bindS_ok (a : α) (k : α → Hs → RS) : (Rs.ok a h).bindS s k = k a h := rfl
@[simp] theorem ev_bindS_ex (c : Nat) (k : α → Hs → RS) : (Rs.ex c h : Rs α).bindS s k = .ex c s h := rfl
@[simp] theorem ev_bindS_no (k : α → Hs → RS) : (Rs.no : Rs α).bindS s k = .no := rfl
@[simp] theorem ev_var (i : Nat) : dVar i s h = match s[i]? with
  | some (some v) => .ok v h
  | _ => .no := rfl
@[simp] theorem ev_c (v : Va) : dC v s h = .ok v h := rfl
@[simp] theorem ev_nil : aNil s h = .ok [] h := rfl
@[simp] theorem ev_cons (f : De) (r : Da) : aCons f r s h = (f s h).bind fun x h1 => (r s h1).bind fun xs h2 => .ok (x :: xs) h2 := rfl
@[simp] theorem ev_op (k : K2) (fa fb : De) : dOp k fa fb s h = (fa s h).bind fun x h1 => (fb s h1).bind fun y h2 => liftO (k x y h2) := rfl
@[simp] theorem ev_lift_some (v : Va) : liftO (some (v, h)) = .ok v h := rfl
@[simp] theorem ev_test (f : De) : dTest f s h = (f s h).bind isB := rfl
@[simp] theorem ev_isB (b : Bool) : isB (.bl b) h = .ok b h := rfl
@[simp] theorem ev_tup (f : Da) : dTup f s h = (f s h).bind fun xs h1 => if okN xs.length then .ok (.tup xs) h1 else .no := rfl
@[simp] theorem ev_lst (f : Da) : dLst f s h = (f s h).bind mkL := rfl
@[simp] theorem ev_mkL (xs : List Va) : mkL xs h = if okN xs.length then .ok (.ref h.length) (h ++ [.lst xs]) else .no := rfl
@[simp] theorem ev_not (f : Dt) : dNot f s h = (f s h).bind fun c h1 => .ok (!c) h1 := rfl
@[simp] theorem ev_and (f k : Dt) : dAnd f k s h = (f s h).bind fun c h1 => match c with
  | true => k s h1
  | false => .ok false h1 := rfl
@[simp] theorem ev_or (f k : Dt) : dOr f k s h = (f s h).bind fun c h1 => match c with
  | true => .ok true h1
  | false => k s h1 := rfl
@[simp] theorem ev_andV (f k : De) : dAndV f k s h = (f s h).bind fun c h1 => match c with
  | .bl true => k s h1
  | .bl false => .ok (.bl false) h1
  | _ => .no := rfl
@[simp] theorem ev_orV (f k : De) : dOrV f k s h = (f s h).bind fun c h1 => match c with
  | .bl true => .ok (.bl true) h1
  | .bl false => k s h1
  | _ => .no := rfl
@[simp] theorem ev_notV (f : De) : dNotV f s h = (f s h).bind fun c h1 => match c with
  | .bl c => .ok (.bl (!c)) h1
  | _ => .no := rfl
@[simp] theorem ev_if (t : Dt) (f k : De) : dIf t f k s h = (t s h).bind fun c h1 => match c with
  | true => f s h1
  | false => k s h1 := rfl
@[simp] theorem ev_ifS (t : Dt) (f k : Ds) : dIfS t f k s h = (t s h).bindS s fun c h1 => match c with
  | true => f s h1
  | false => k s h1 := rfl
@[simp] theorem ev_nx : dNx s h = .nx s h := rfl
def andThen (r : RS) (k : Ds) : RS := match r with
  | .nx s1 h1 => k s1 h1
  | .rt v h1 => .rt v h1
  | .bk s1 h1 => .bk s1 h1
  | .ct s1 h1 => .ct s1 h1
  | .ex c s1 h1 => .ex c s1 h1
  | .no => .no
@[simp] theorem ev_seq (f k : Ds) : dSeq f k s h = andThen (f s h) k := rfl
@[simp] theorem ev_then_nx (k : Ds) : andThen (.nx s h) k = k s h := rfl
@[simp] theorem ev_then_rt (v : Va) (k : Ds) : andThen (.rt v h) k = .rt v h := rfl
@[simp] theorem ev_drop (l : List Nat) (k : Ds) : dDrop l k s h = k (maskS l 0 s) h := rfl
@[simp] theorem ev_expr (f : De) : dExpr f s h = (f s h).bindS s fun _ h1 => .nx s h1 := rfl
@[simp] theorem ev_ret (f : De) : dRet f s h = (f s h).bindS s fun v h1 => .rt v h1 := rfl
@[simp] theorem ev_set (i : Nat) (f : De) : dSet i f s h = (f s h).bindS s fun v h1 => .nx (s.set i (some v)) h1 := rfl
@[simp] theorem ev_call (F : Fn) (np : Nat) (a : Da) : dCall F np a s h = (a s h).bind fun xs h1 => if xs.length == np then callD F xs h1 else .no := rfl
@[simp] theorem ev_call0 (F : Fn) : dCall0 F s h = callD F [] h := rfl
@[simp] theorem ev_B (k : K1) (f : Da) : dB k f s h = (f s h).bind fun xs h1 => liftO (k xs h1) := rfl
@[simp] theorem ev_chain (k k' : K2) (fa fb fc : De) : dChain k k' fa fb fc s h = (fa s h).bind fun x h1 => (fb s h1).bind fun y h2 => (liftO (k x y h2)).bind fun z h3 => match z with
  | .bl true => (fc s h3).bind fun w h4 => liftO (k' y w h4)
  | .bl false => .ok (.bl false) h3
  | _ => .no := rfl
@[simp] theorem ev_le (i j : Int) : kLe (.int i) (.int j) h = some (.bl (decide (i ≤ j)), h) := rfl
@[simp] theorem ev_lt (i j : Int) : kLt (.int i) (.int j) h = some (.bl (decide (i < j)), h) := rfl
@[simp] theorem ev_ge (i j : Int) : kGe (.int i) (.int j) h = some (.bl (decide (j ≤ i)), h) := rfl
@[simp] theorem ev_gt (i j : Int) : kGt (.int i) (.int j) h = some (.bl (decide (j < i)), h) := rfl
@[simp] theorem ev_sub (i j : Int) : kSub (.int i) (.int j) h = some (.int (i - j), h) := rfl
@[simp] theorem ev_add (i j : Int) : kAdd (.int i) (.int j) h = some (.int (i + j), h) := rfl
@[simp] theorem ev_isiI (i : Int) (b : String) : kIsi [.int i, .ty b] h = (isiT "int" b).map fun r => (.bl r, h) := rfl
@[simp] theorem ev_isi1 : isiT "int" "int" = some true := by decide
@[simp] theorem ev_isi2 : isiT "int" "bool" = some false := by decide
@[simp] theorem ev_yes : dYes s h = .ok true h := rfl
@[simp] theorem ev_it (f : De) : dIt f s h = (f s h).bind itOf := rfl
@[simp] theorem ev_itOf (xs : List Va) : itOf (.tup xs) h = .ok (.tup xs) h := rfl
@[simp] theorem ev_comp (own : List Nat) (di : Di) (t : Tg) (test : Dt) (el : De) : dComp own di t test el s h = (di s h).bind fun it h1 => (compL it t test el (wipeS s own) (itLen it h1 + 1) 0 h1).bind mkL := rfl
@[simp] theorem ev_isiT (xs : List Va) (b : String) : kIsi [.tup xs, .ty b] h = (isiT "tuple" b).map fun r => (.bl r, h) := rfl
@[simp] theorem ev_isi3 : isiT "tuple" "tuple" = some true := by decide
@[simp] theorem ev_lenT (xs : List Va) : kLen [.tup xs] h = some (.int xs.length, h) := rfl
theorem bd_int (i j : Int) : (i == j) = decide (i = j) := by
  by_cases h : i = j
  · simp [h]
  · simp [h]
@[simp] theorem ev_okN (n : Nat) : okN n = decide (n ≤ 16777216) := rfl
@[simp] theorem ev_eqI (i j : Int) : kEq (.int i) (.int j) h = some (.bl (decide (i = j)), h) := by
  simp [kEq, toD, PyData.eqv, bd_int]
@[simp] theorem ev_neI (i j : Int) : kNe (.int i) (.int j) h = some (.bl (!decide (i = j)), h) := by
  simp [kNe, toD, PyData.eqv, bd_int]
/-- a comprehension over what is there -/
def compS (t : Tg) (test : Dt) (el : De) (s : Sg) : List Va → Hs → Rs (List Va)
  | [], h => .ok [] h
  | v :: vs, h => match setT t v s h with
    | none => .no
    | some s1 => match test s1 h with
      | .ok true h1 => match el s1 h1 with
        | .ok y h2 => match compS t test el s vs h2 with
          | .ok ys h3 => .ok (y :: ys) h3
          | .ex _ _ => .no
          | .no => .no
        | .ex _ _ => .no
        | .no => .no
      | .ok false h1 => compS t test el s vs h1
      | .ex _ _ => .no
      | .no => .no
theorem compS_gen (it : It') (zs : List Va) (t : Tg) (test : Dt) (el : De) (s : Sg) (hn : ∀ (i : Nat) (h : Hs), i ≤ zs.length → nxt it i h = some zs[i]?) : ∀ (f i : Nat) (h : Hs), i + f = zs.length + 1 → 0 < f → compL it t test el s f i h = compS t test el s (zs.drop i) h
  | 0, _, _, _, z => absurd z (Nat.lt_irrefl 0)
  | f + 1, i, h, e, _ => by
    unfold compL
    rw [hn i h (by omega)]
    by_cases hi : i < zs.length
    · rw [List.getElem?_eq_getElem hi, List.drop_eq_getElem_cons hi]
      simp only [compS]
      cases setT t zs[i] s h with
      | none => rfl
      | some s1 =>
        simp only
        cases test s1 h with
        | no => rfl
        | ex c h1 => rfl
        | ok b h1 =>
          cases b with
          | false => simp only; exact compS_gen it zs t test el s hn f (i + 1) h1 (by omega) (by omega)
          | true =>
            simp only
            cases el s1 h1 with
            | no => rfl
            | ex c h2 => rfl
            | ok y h2 =>
              simp only
              rw [compS_gen it zs t test el s hn f (i + 1) h2 (by omega) (by omega)]
              all_goals (cases compS t test el s (zs.drop (i + 1)) h2 <;> rfl)
    · rw [List.getElem?_eq_none (by omega), List.drop_of_length_le (by omega)]
      rfl
@[simp] theorem ev_compT (xs : List Va) (t : Tg) (test : Dt) (el : De) : compL (.tup xs) t test el s (itLen (.tup xs) h + 1) 0 h = compS t test el s xs h :=
  compS_gen (.tup xs) xs t test el s (fun _ _ _ => rfl) (xs.length + 1) 0 h (by omega) (by omega)
def zipV : List Va → List Va → List Va
  | x :: xs, y :: ys => .tup [x, y] :: zipV xs ys
  | _, _ => []
theorem zipV_len : ∀ xs ys : List Va, (zipV xs ys).length = min xs.length ys.length
  | [], ys => by simp [zipV]
  | x :: xs, [] => by simp [zipV]
  | x :: xs, y :: ys => by simp only [zipV, List.length_cons, zipV_len xs ys]; omega
theorem zipV_get : ∀ (xs ys : List Va) (i : Nat), (zipV xs ys)[i]? = match xs[i]?, ys[i]? with
    | some x, some y => some (.tup [x, y])
    | _, _ => none
  | [], ys, i => by simp [zipV]
  | x :: xs, [], i => by
    simp only [zipV, List.getElem?_nil]
    cases (x :: xs)[i]? <;> rfl
  | x :: xs, y :: ys, 0 => by simp [zipV]
  | x :: xs, y :: ys, i + 1 => by simpa [zipV] using zipV_get xs ys i
@[simp] theorem ev_compZ (xs ys : List Va) (t : Tg) (test : Dt) (el : De) : compL (.zip (.tup xs) (.tup ys)) t test el s (itLen (.zip (.tup xs) (.tup ys)) h + 1) 0 h = compS t test el s (zipV xs ys) h := by
  refine compS_gen _ (zipV xs ys) t test el s (fun i h' hi => ?_) _ 0 h (by rw [zipV_len]; simp [itLen]) (by omega)
  rw [zipV_len] at hi
  have hc : (decide (i ≤ itLen (.tup xs) h') && decide (i ≤ itLen (.tup ys) h')) = true := by
    show (decide (i ≤ xs.length) && decide (i ≤ ys.length)) = true
    simp; omega
  unfold nxt
  rw [if_pos hc, zipV_get]
  simp only [nxt]
  cases xs[i]? with
  | none => rfl
  | some x => cases ys[i]? <;> rfl
@[simp] theorem ev_zip (f : Da) : dZipS f s h = (f s h).bind fun vs h1 => match vs with
  | [x, y] => if noStr x && noStr y then pairIt x y h1 else .no
  | _ => .no := rfl
@[simp] theorem ev_noStr (xs : List Va) : noStr (.tup xs) = true := rfl
@[simp] theorem ev_pairIt (xs ys : List Va) : pairIt (.tup xs) (.tup ys) h = .ok (.zip (.tup xs) (.tup ys)) h := rfl
@[simp] theorem ev_setT2 (i j : Nat) (x y : Va) : setT (.tp [i, j]) (.tup [x, y]) s h = some ((s.set i (some x)).set j (some y)) := rfl
@[simp] theorem ev_mul_r (i j : Int) (h1 : -18446744073709551616 < j) (h2 : j < 18446744073709551616) : kMul (.int i) (.int j) h = some (.int (i * j), h) := by
  unfold kMul
  simp only
  rw [if_pos]
  unfold mulOk
  rw [decide_eq_true (show -(2 ^ 64) < j by omega), decide_eq_true (show j < 2 ^ 64 by omega)]
  simp
@[simp] theorem ev_mul_l (i j : Int) (h1 : -18446744073709551616 < i) (h2 : i < 18446744073709551616) : kMul (.int i) (.int j) h = some (.int (i * j), h) := by
  unfold kMul
  simp only
  rw [if_pos]
  unfold mulOk
  rw [decide_eq_true (show -(2 ^ 64) < i by omega), decide_eq_true (show i < 2 ^ 64 by omega)]
  simp
@[simp] theorem ev_sum (r : Nat) : kSumA [.ref r] h = (lstArg [.ref r] h).bind fun ys => (intsV ys).map fun ns => (.int ns.sum, h) := rfl
@[simp] theorem ev_ints0 : intsV [] = some [] := rfl
@[simp] theorem ev_ints1 (i : Int) (l : List Va) : intsV (.int i :: l) = (intsV l).map fun r => i :: r := by
  cases e : intsV l with
  | none => simp [intsV, e]
  | some r => simp [intsV, e]
@[simp] theorem ev_compS_nil (t : Tg) (test : Dt) (el : De) : compS t test el s [] h = .ok [] h := rfl
@[simp] theorem ev_compS_cons (t : Tg) (test : Dt) (el : De) (v : Va) (vs : List Va) : compS t test el s (v :: vs) h = match setT t v s h with
    | none => .no
    | some s1 => match test s1 h with
      | .ok true h1 => match el s1 h1 with
        | .ok y h2 => match compS t test el s vs h2 with
          | .ok ys h3 => .ok (y :: ys) h3
          | .ex _ _ => .no
          | .no => .no
        | .ex _ _ => .no
        | .no => .no
      | .ok false h1 => compS t test el s vs h1
      | .ex _ _ => .no
      | .no => .no := rfl
@[simp] theorem ev_setT (i : Nat) (v : Va) : setT (.nm i) v s h = some (s.set i (some v)) := rfl
@[simp] theorem ev_wipe0 : wipeS s [] = s := rfl
@[simp] theorem ev_wipe1 (i : Nat) (l : List Nat) : wipeS s (i :: l) = (wipeS s l).set i none := rfl
/-- lists told by the heap -/
@[simp] theorem ev_lstArg (r : Nat) : lstArg [.ref r] h = match h[r]? with
  | some (.lst ys) => some ys
  | _ => none := rfl
@[simp] theorem ev_all (xs : List Va) : kAll xs h = (lstArg xs h).bind fun ys => (bls ys).map fun bs => (.bl (bs.all id), h) := rfl
@[simp] theorem ev_bls0 : bls [] = some [] := rfl
@[simp] theorem ev_bls1 (b : Bool) (l : List Va) : bls (.bl b :: l) = (bls l).map fun r => b :: r := by
  cases e : bls l with
  | none => simp [bls, e]
  | some r => simp [bls, e]
end
end Wr
namespace Pg
open PySem PySem.Spec PyProof.Rows L2 Wr
theorem whole_ok (i lo hi : Int) (h1 : lo ≤ i) (h2 : i ≤ hi) : is_whole [.int i, .int lo, .int hi] [] = .ok (.bl true) [] := by
  simp [is_whole, D_is_whole, fnD, h1, h2, toRs, compact]
theorem book_ok (a b c d e f : Int) (h : ∀ x ∈ [a, b, c, d, e, f], 0 ≤ x ∧ x ≤ 99) : is_book [.tup [.int a, .int b, .int c, .int d, .int e, .int f]] [] = .ok (.bl true) [] := by
  have w : ∀ (x : Int) (h : Hs), 0 ≤ x ∧ x ≤ 99 → callD is_whole [.int x, .int 0, .int 99] h = .ok (.bl true) h := fun x h hx => callD_flat rfl rfl rfl (whole_ok x 0 99 hx.1 hx.2)
  simp only [List.mem_cons, List.not_mem_nil, or_false, forall_eq_or_imp, forall_eq] at h
  obtain ⟨h0, h1, h2, h3, h4, h5⟩ := h
  simp [is_book, D_is_book, fnD, c_GREATEST, w, h0, h1, h2, h3, h4, h5]
  rfl
theorem look_book_ok (a b c d e f : Int) (h : ∀ x ∈ [a, b, c, d, e, f], 0 ≤ x ∧ x ≤ 99) : look_book [.tup [.int a, .int b, .int c, .int d, .int e, .int f]] [] = .ok .non [] := by
  have w : ∀ h', callD is_book [.tup [.int a, .int b, .int c, .int d, .int e, .int f]] h' = .ok (.bl true) h' := fun h' => callD_flat rfl rfl rfl (book_ok a b c d e f h)
  simp [look_book, D_look_book, fnD, w, toRs, compact]
/-- who is ahead -/
abbrev Bk (a b c d e f : Int) : Va := .tup [.int a, .int b, .int c, .int d, .int e, .int f]
/-- swaps of two rankings -/
def wv : Nat → Va
  | 0 => .tup [.int 0, .int 1, .int 2]
  | 1 => .tup [.int 0, .int 2, .int 1]
  | 2 => .tup [.int 1, .int 0, .int 2]
  | 3 => .tup [.int 1, .int 2, .int 0]
  | 4 => .tup [.int 2, .int 0, .int 1]
  | _ => .tup [.int 2, .int 1, .int 0]
theorem lt6 {i : Nat} (h : i < 6) : i = 0 ∨ i = 1 ∨ i = 2 ∨ i = 3 ∨ i = 4 ∨ i = 5 := by omega
theorem is_wish_ok (j : Nat) (hj : j < 6) (h : Hs) : callD is_wish [wv j] h = .ok (.bl true) h := by
  rcases lt6 hj with rfl | rfl | rfl | rfl | rfl | rfl <;> exact callD_flat rfl rfl rfl (by kernel_rfl)
theorem cell_ok (ns : List Int) (k : Int) (hk : 0 ≤ k) : ∃ c, _law_cell ns [.scr, .int k] [] = .ok (.int c) [] := by
  by_cases h1 : k < (ns.length : Int)
  · obtain ⟨j, rfl⟩ := Int.eq_ofNat_of_zero_le hk
    have h2 : j < ns.length := by omega
    have e : L2.atI ns (j : Int) = some ns[j] := by
      unfold L2.atI ixN
      rw [if_pos (by omega), if_pos (by omega)]
      simp [List.getElem?_eq_getElem h2]
    exact ⟨ns[j], by simp [_law_cell, D__law_cell, fnD, kLenS, h1, h2, kIxS, e, toRs, compact]⟩
  · cases ns with
    | nil =>
      have h6 : ¬ k < 0 := by omega
      exact ⟨0, by simp [_law_cell, D__law_cell, fnD, kLenS, kEqS, eqNil, h6, toRs]; rfl⟩
    | cons x t =>
      have h0 : (0 : Int) < ((x :: t).length : Int) := by simp only [List.length_cons]; omega
      have h3 := Int.emod_nonneg k (by omega : ((x :: t).length : Int) ≠ 0)
      have h4 := Int.emod_lt_of_pos k h0
      obtain ⟨j, hj⟩ := Int.eq_ofNat_of_zero_le h3
      rw [hj] at h4
      have h5 : j < (x :: t).length := by omega
      generalize hL : ((x :: t).length : Int) = L at *
      have e : L2.atI (x :: t) (k % L) = some (x :: t)[j] := by
        rw [hj]
        unfold L2.atI ixN
        rw [if_pos (by omega), if_pos (by omega)]
        simp [List.getElem?_eq_getElem h5]
      refine ⟨(x :: t)[j] * 31 + k, ?_⟩
      have e2 : kMod (.int k) (.int L) [.lst []] = some (.int (k % L), [.lst []]) := by
        unfold kMod
        simp only
        rw [if_pos (decide_eq_true h0)]
      have e3 : ∀ h : Hs, kLenS (x :: t) [.scr] h = some (.int L, h) := fun h => by rw [← hL]; rfl
      simp [_law_cell, D__law_cell, fnD, e3, h1, kEqS, eqNil, e2, kIxS, e, toRs]
      rfl
end Pg
set_option Elab.async false
set_option linter.all false
set_option maxRecDepth 100000
set_option maxHeartbeats 4000000
set_option autoImplicit false
namespace Wr
open PySem PySem.Spec PyProof.Rows L2
@[simp] theorem ev_append (r : Nat) (y : Va) (h : Hs) : kAppend (.ref r) [y] h = match h[r]? with
  | some (.lst ys) => if okN (ys.length + 1) then some (.non, h.set r (.lst (ys ++ [y]))) else none
  | _ => none := rfl
@[simp] theorem ev_M (T : String) (k : KM) (fo : De) (fa : Da) (s : Sg) (h : Hs) : dM T k fo fa s h = (fo s h).bind fun x h1 => match isTy T x h1 with
  | true => (fa s h1).bind fun xs h2 => liftO (k x xs h2)
  | false => .no := rfl
@[simp] theorem ev_isTyR (T : String) (r : Nat) (h : Hs) : isTy T (.ref r) h = match h[r]? with
  | some (.lst _) => T == "list"
  | _ => false := rfl
@[simp] theorem ev_intB (b : Bool) (h : Hs) : kInt [.bl b] h = some (.int (if b then 1 else 0), h) := rfl
@[simp] theorem ev_intI (b : Int) (h : Hs) : kInt [.int b] h = some (.int b, h) := rfl
def rngV (lo : Int) (n : Nat) : List Va := (List.range n).map fun (i : Nat) => .int (lo + (i : Int))
theorem rngV_nxt (lo : Int) (n i : Nat) (h : Hs) : nxt (.rng lo n) i h = some (rngV lo n)[i]? := by
  simp only [nxt, rngV, List.getElem?_map]
  by_cases hi : i < n
  · rw [if_pos hi, List.getElem?_range hi]; rfl
  · rw [if_neg hi, List.getElem?_eq_none (by simp; omega)]; rfl
theorem callD_list {F : Fn} {args xs : List Va} {hp : Hs} (h1 : refsVs args = []) (h2 : rens (idx []) args = some args) (h3 : rens (bkI [] hp.length) xs = some xs) (h : F args [] = .ok (.ref 0) [.lst xs]) : callD F args hp = .ok (.ref hp.length) (hp ++ [.lst xs]) := by
  unfold callD
  rw [h1]
  have e : reach 300 hp [] [] = [] := rfl
  simp only [e]
  have e2 : nodupB [] = true := rfl
  rw [if_pos e2, h2]
  have e3 : selO [] hp [] = some [] := rfl
  simp only [e3]
  rw [h]
  have e4 : ren (bkI [] hp.length) (.ref 0) = some (.ref hp.length) := by simp [ren, bkI]
  simp only [back, e4]
  have e5 : backH [] hp [.lst xs] = some (hp ++ [.lst xs]) := by
    unfold backH
    have e6 : renOs (bkI [] hp.length) [.lst xs] = some [.lst xs] := by
      simp [renOs, renO, h3]
    rw [e6]
    simp [mix_nil]
  rw [e5]
end Wr
namespace Pg
open PySem PySem.Spec PyProof.Rows L2 Wr
theorem wishes_ok (h : Hs) : callD _law_wishes [] h = .ok (.ref h.length) (h ++ [.lst [wv 0, wv 1, wv 2, wv 3, wv 4, wv 5]]) :=
  callD_list rfl rfl rfl (by kernel_rfl)
abbrev six : Ob := .lst [.int 1, .int 2, .int 3, .int 4, .int 9, .int 50]
end Pg
set_option Elab.async false
set_option linter.all false
set_option maxRecDepth 100000
set_option maxHeartbeats 4000000
set_option autoImplicit false
namespace Wr
open PySem PySem.Spec PyProof.Rows L2
theorem seqN {f g : Ds} {s s1 : Sg} {h h1 : Hs} (e : f s h = .nx s1 h1) : dSeq f g s h = g s1 h1 := by unfold dSeq; rw [e]
theorem stepC {f g : Ds} {s : Sg} (s1 : Sg) {h : Hs} (h1 : Hs) {n : Nat} {R : Rs Va} (e : f s h = .nx s1 h1) (k : compact n (toRs (g s1 h1)) = R) : compact n (toRs (dSeq f g s h)) = R := by rw [seqN e]; exact k
theorem compact_bl (b : Bool) (h : Hs) : ∃ h', compact 0 (.ok (.bl b) h) = .ok (.bl b) h' := by
  unfold compact
  by_cases hl : (h.length == 0) = true
  · exact ⟨h, by simp only; rw [if_pos hl]⟩
  · refine ⟨[], ?_⟩
    simp only
    rw [if_neg hl]
    have e : lastM 0 (.bl b) h = [] := by simp [lastM, refsV, reach]
    rw [e]
    rfl
end Wr
namespace Pg
open PySem PySem.Spec PyProof.Rows L2 Wr
section
variable (a b c d e f : Int)
abbrev Bok (a b c d e f : Int) : Prop := ∀ x ∈ [a, b, c, d, e, f], 0 ≤ x ∧ x ≤ 99
theorem look_call (hb : Bok a b c d e f) (h : Hs) : callD look_book [Bk a b c d e f] h = .ok .non h := callD_flat rfl rfl rfl (look_book_ok a b c d e f hb)
theorem turned_ok (hb : Bok a b c d e f) (h : Hs) : callD turned [Bk a b c d e f] h = .ok (Bk f d e b c a) h := by
  refine callD_flat rfl rfl rfl ?_
  have w := look_call a b c d e f hb []
  have e1 : dExpr (dCall look_book 1 (aCons (dVar 0) aNil)) [some (Bk a b c d e f), none] [] = .nx [some (Bk a b c d e f), none] [] := by simp [w]
  show compact 0 (toRs (dSeq (dExpr (dCall look_book 1 (aCons (dVar 0) aNil))) _ [some (Bk a b c d e f), none] [])) = _
  rw [seqN e1]
  kernel_rfl
end
end Pg
set_option Elab.async false
set_option linter.all false
set_option maxRecDepth 100000
set_option maxHeartbeats 4000000
set_option autoImplicit false
namespace Zr
open PySem PySem.Spec PyProof.Rows L2 Wr
abbrev SH := List (Nat × Int)
def fstL (m : Nat) (occ : Nat → Bool) : Nat → SetTable.Probe → Option Nat
  | 0, _ => none
  | f + 1, p => if occ p.j then fstL m occ f (adv m p) else some p.j
abbrev pr0 (m : Nat) (h : Int) : SetTable.Probe := runAt m (SetTable.bits h % (m + 1)) (SetTable.bits h)
def insL (q : Nat × Int) : SH → SH
  | [] => [q]
  | a :: r => if a.1 < q.1 then a :: insL q r else q :: a :: r
def layL (m : Nat) : List Int → Nat → List (Nat × Nat) → Option (List (Nat × Nat))
  | [], _, y => some y
  | h :: r, k, y => match fstL m (fun j => y.any fun q => q.1 == j) 40 (pr0 m h) with
    | some j => layL m r (k + 1) ((j, k) :: y)
    | none => none
def liveL (m : Nat) (y : List (Nat × Nat)) : List (Nat × Nat) := (List.range (m + 1)).filterMap fun j => (y.find? fun q => q.1 == j).map fun q => (j, q.2)
def permB (l : List Nat) (n : Nat) : Bool := l.length == n && (List.range n).all fun i => l.contains i
def relL (x : SH) : Option (Nat × SH) :=
  let M := SetTable.sizeAbove (SetTable.grown x.length) - 1
  if decide (M ≤ 4096) && decide (40 ≤ SetTable.turns M) && M % 2 == 1 && decide (x.length * 5 < M * 3) then
    match layL M (x.map (·.2)) 0 [] with
    | some y => if permB ((liveL M y).map (·.2)) x.length then some (M, (liveL M y).map fun q => (q.1, ((x.map (·.2)).toArray.getD q.2 0))) else none
    | none => none
  else none
def stepL (h : Int) (s : Nat × SH) : Option (Nat × SH) :=
  if s.2.any fun q => q.2 == h then none else
  match fstL s.1 (fun j => s.2.any fun q => q.1 == j) 40 (pr0 s.1 h) with
  | none => none
  | some j => if s.1 * 3 ≤ (insL (j, h) s.2).length * 5 then relL (insL (j, h) s.2) else some (s.1, insL (j, h) s.2)
def runL : List Int → Nat × SH → Option (Nat × SH)
  | [], x => some x
  | h :: r, x => match stepL h x with
    | some y => runL r y
    | none => none
def hT (ns : List Int) : Int := reduceHash (Builtin.Tuple.tupleHashOf (ns.map hashInt))
def okS (hs : List Int) : Bool := (runL hs (7, [])).isSome
theorem fst_spec (m : Nat) (occ : Nat → Bool) : ∀ (f : Nat) (p : SetTable.Probe) (j : Nat), fstL m occ f p = some j → ∃ K, K < f ∧ (nth m p K).j = j ∧ occ j = false ∧ ∀ k, k < K → occ (nth m p k).j = true
  | 0, _, _, h => nomatch h
  | f + 1, p, j, h => by
    unfold fstL at h
    cases ho : occ p.j with
    | false =>
      rw [ho] at h
      have e : p.j = j := Option.some.inj h
      exact ⟨0, Nat.succ_pos _, e, by rw [← e]; exact ho, fun k hk => absurd hk (Nat.not_lt_zero _)⟩
    | true =>
      rw [ho] at h
      obtain ⟨K, h1, h2, h3, h4⟩ := fst_spec m occ f (adv m p) j h
      refine ⟨K + 1, Nat.succ_lt_succ h1, h2, h3, fun k hk => ?_⟩
      cases k with
      | zero => exact ho
      | succ k => exact h4 k (Nat.lt_of_succ_lt_succ hk)
theorem pr0_in (m : Nat) (h : Int) (k : Nat) : (nth m (pr0 m h) k).j ≤ m := by
  have r := runEnd_bd (show SetTable.bits h % (m + 1) ≤ m from Nat.le_of_lt_succ (Nat.mod_lt _ (Nat.succ_pos _)))
  have q := nth_in (m := m) k (pr0 m h) (by
    show SetTable.bits h % (m + 1) + (SetTable.runEnd m (SetTable.bits h % (m + 1)) - SetTable.bits h % (m + 1)) ≤ m
    omega)
  omega
theorem off_ge (m : Nat) : ∀ (n i b : Nat), n ≤ off m i b n
  | 0, _, _ => Nat.zero_le _
  | n + 1, i, b => by
    have := off_ge m n (SetTable.leap m i b).1 (SetTable.leap m i b).2
    show n + 1 ≤ (SetTable.runEnd m i - i + 1) + off m (SetTable.leap m i b).1 (SetTable.leap m i b).2 n
    omega
theorem ins_at (q : Nat × Int) : ∀ (x : SH) (p : Nat), p ≤ x.length → (∀ i a, x[i]? = some a → i < p → a.1 < q.1) → (∀ i a, x[i]? = some a → p ≤ i → q.1 ≤ a.1) → insL q x = x.take p ++ q :: x.drop p
  | [], p, hp, _, _ => by
    have : p = 0 := by simpa using hp
    subst this
    rfl
  | a :: x, p, hp, h1, h2 => by
    unfold insL
    cases p with
    | zero =>
      have := h2 0 a rfl (Nat.le_refl _)
      rw [if_neg (by omega)]
      rfl
    | succ p =>
      rw [if_pos (h1 0 a rfl (Nat.succ_pos _)), ins_at q x p (by simpa using hp) (fun i b hb hi => h1 (i + 1) b (by simpa using hb) (by omega)) fun i b hb hi => h2 (i + 1) b (by simpa using hb) (by omega)]
      rfl
/-- who sits where, by a list -/
structure OwL (m : Nat) (owner : Array (Option Nat)) (y : List (Nat × Nat)) : Prop where
  sz : owner.size = m + 1
  at_ : ∀ j, j ≤ m → oAt owner j = (y.find? fun q => q.1 == j).map (·.2)
theorem any_find {y : List (Nat × Nat)} (j : Nat) : (y.any fun q => q.1 == j) = ((y.find? fun q => q.1 == j).map (·.2)).isSome := by
  induction y with
  | nil => rfl
  | cons a y ih =>
    rw [List.any_cons, List.find?_cons]
    cases (a.1 == j) with
    | true => rfl
    | false => exact ih
theorem lay_ok (m : Nat) (hm : 40 ≤ SetTable.turns m) : ∀ (hs : List Int) (k : Nat) (y y2 : List (Nat × Nat)) (owner : Array (Option Nat)), OwL m owner y → layL m hs k y = some y2 →
    ∃ owner2 k2, hs.foldl (stepF m) (some (owner, k)) = some (owner2, k2) ∧ OwL m owner2 y2
  | [], k, y, y2, owner, W, h => by
    cases h
    exact ⟨owner, k, rfl, W⟩
  | h :: hs, k, y, y2, owner, W, e => by
    unfold layL at e
    cases hj : fstL m (fun j => y.any fun q => q.1 == j) 40 (pr0 m h) with
    | none => rw [hj] at e; cases e
    | some j =>
      rw [hj] at e
      dsimp only at e
      obtain ⟨K, k1, k2, k3, k4⟩ := fst_spec m _ 40 _ j hj
      have fr : SetTable.layClean.free m owner (SetTable.turns m) (SetTable.bits h % (m + 1)) (SetTable.bits h) = some j := by
        rw [← k2]
        refine free_spec m owner (SetTable.turns m) K _ _ K (by omega) (off_ge m K _ _) (fun c hc => ?_) ?_
        · have q := k4 c hc
          rw [any_find, ← W.at_ _ (pr0_in m h c)] at q
          revert q
          show (oAt owner (nth m (pr0 m h) c).j).isSome = true → (oAt owner (nth m (pr0 m h) c).j).isNone = false
          cases oAt owner (nth m (pr0 m h) c).j with
          | none => intro q; cases q
          | some _ => exact fun _ => rfl
        · rw [← k2, any_find, ← W.at_ _ (pr0_in m h K)] at k3
          revert k3
          show (oAt owner (nth m (pr0 m h) K).j).isSome = false → (oAt owner (nth m (pr0 m h) K).j).isNone = true
          cases oAt owner (nth m (pr0 m h) K).j with
          | none => exact fun _ => rfl
          | some _ => intro q; cases q
      have hjm : j ≤ m := by rw [← k2]; exact pr0_in m h K
      rw [List.foldl_cons, stepF_some fr]
      refine lay_ok m hm hs (k + 1) _ y2 _ ⟨by rw [Array.size_setIfInBounds]; exact W.sz, fun i hi => ?_⟩ e
      rw [List.find?_cons]
      by_cases c : j = i
      · subst c
        rw [oAt_set_self _ (by rw [W.sz]; omega)]
        simp
      · rw [oAt_set_ne _ (Ne.symm c), W.at_ i hi]
        have : (j == i) = false := by simpa using c
        simp [this]
theorem lay_clean {m : Nat} (hm : 40 ≤ SetTable.turns m) {hs : Array Int} {y : List (Nat × Nat)} (h : layL m hs.toList 0 [] = some y) : ∃ owner, SetTable.layClean m hs = some owner ∧ liveOf m owner = liveL m y := by
  obtain ⟨owner, k2, e, W⟩ := lay_ok m hm hs.toList 0 [] y (Array.replicate (m + 1) none) ⟨by simp, fun j hj => by rw [oAt_init hj]; rfl⟩ h
  refine ⟨owner, by rw [layClean_eq, e]; rfl, ?_⟩
  unfold liveOf liveL
  have key : ∀ l : List Nat, (∀ j ∈ l, j ≤ m) → (l.filterMap fun j => (owner.getD j none).map (j, ·)) = l.filterMap fun j => (y.find? fun q => q.1 == j).map fun q => (j, q.2) := by
    intro l
    induction l with
    | nil => exact fun _ => rfl
    | cons j l ih =>
      intro hl
      have hj := hl j List.mem_cons_self
      rw [List.filterMap_cons, List.filterMap_cons, ih fun i hi => hl i (List.mem_cons_of_mem _ hi), oAt_none (by rw [W.sz]; omega), W.at_ j hj, Option.map_map]
      rfl
  exact key _ fun j hj => Nat.le_of_lt_succ (List.mem_range.mp hj)
theorem permB_ok {l : List Nat} {n : Nat} (h : permB l n = true) : l.Perm (List.range n) := by
  unfold permB at h
  rw [Bool.and_eq_true, beq_iff_eq, List.all_eq_true] at h
  refine perm_range n l h.1 fun k hk => ?_
  have := h.2 k (List.mem_range.mpr hk)
  simpa using this
end Zr
set_option Elab.async false
set_option linter.all false
set_option maxRecDepth 100000
set_option maxHeartbeats 4000000
set_option autoImplicit false
namespace Zr
open PySem PySem.Spec PyProof.Rows L2 Wr
section
variable {P : Program} {w : World} {A : Around} {E : Value → Shared → Prop} {s : Shared}
/-- the set at a holds the entries L, its table is (m, x) -/
structure SetB (w : World) (h : Heap) (a : Addr) (L : List Ent) (es : Array (Int × Value)) (ep : Nat) (t : SetTable) (m : Nat) (x : SH) : Prop where
  ob : ∃ o, h.get? a = some o ∧ o.ExactSet ∧ o.data = .set es ep t
  rows : es.toList = L.map (entR w)
  mask : t.mask = m
  pl : t.place.toList = x.map (·.1)
  hs : (L.map fun p => nh w p.2) = x.map (·.2)
  dm : t.dummies = #[]
  ris : Ris t.place.toList
  odd : m % 2 = 1
  tup : ∀ p ∈ L, TK8 h p.2 p.1
  plain : t.plain = true
  led : w.params.followText "set-order" = true ∨ t.led = true
  room : L.length * 5 < m * 3
variable {a : Addr} {L : List Ent} {es : Array (Int × Value)} {ep : Nat} {t : SetTable} {m : Nat} {x : SH}
theorem SetB.len (R : SetB w s.heap a L es ep t m x) : x.length = L.length := by
  have := congrArg List.length R.hs
  simpa using this.symm
theorem SetB.psz (R : SetB w s.heap a L es ep t m x) : t.place.size = L.length := by
  rw [← Array.length_toList, R.pl, List.length_map, R.len]
theorem SetB.fits (R : SetB w s.heap a L es ep t m x) : t.fits es.size = true := by
  have h2 := ent_size R.rows
  have h3 := R.room
  exact fits_of (by rw [R.psz, h2]) R.dm (by rw [R.mask]; omega)
theorem SetB.calm (R : SetB w s.heap a L es ep t m x) : ¬ t.gaveWay = true := by
  unfold SetTable.gaveWay
  rw [R.mask, R.odd]
  decide
theorem mem_any {x : SH} {j : Nat} : j ∈ x.map (·.1) ↔ (x.any fun q => q.1 == j) = true := by
  rw [List.mem_map, List.any_eq_true]
  exact ⟨fun ⟨q, h, e⟩ => ⟨q, h, by simpa using e⟩, fun ⟨q, h, e⟩ => ⟨q, h, by simpa using e⟩⟩
/-- the table grows -/
theorem grow_b {o : Obj} (ho : s.heap.get? a = some o) (hex : o.ExactSet) (hd : o.data = .set es ep t) (hrows : es.toList = L.map (entR w)) (hsz : t.place.size = es.size) (hdm : t.dummies = #[]) (hfl : es.size ≤ t.mask)
    (hs : (L.map fun p => nh w p.2) = x.map (·.2)) (tup : ∀ p ∈ L, TK8 s.heap p.2 p.1) (pl : t.plain = true) (ld : w.params.followText "set-order" = true ∨ t.led = true) {m2 : Nat} {x2 : SH}
    (e : relL x = some (m2, x2)) (hz : L.length < 4000) {wanted : Nat} (hw : wanted = SetTable.grown x.length) {Q : Unit → Shared → Prop}
    (hQ : ∀ h' L' es' ep' t', Heap.SameBut a s.heap h' → SetB w h' a L' es' ep' t' m2 x2 → L'.Perm L → Q () { s with heap := h' }) : wpAny (model P w) A (setRelay a wanted) Q E s := by
  subst hw
  have hsl := ent_size hrows
  have hlx : x.length = L.length := by
    have := congrArg List.length hs
    simpa using this.symm
  have hha : (es.map (·.1)) = (x.map (·.2)).toArray := by
    apply Array.ext'
    rw [Array.toList_map, hrows, List.map_map, ← hs]
    rfl
  unfold relL at e
  dsimp only at e
  generalize hM : SetTable.sizeAbove (SetTable.grown x.length) - 1 = M at e
  by_cases c : (decide (M ≤ 4096) && decide (40 ≤ SetTable.turns M) && M % 2 == 1 && decide (x.length * 5 < M * 3)) = true
  case neg => rw [if_neg c] at e; cases e
  rw [if_pos c] at e
  simp only [Bool.and_eq_true, decide_eq_true_eq, beq_iff_eq] at c
  obtain ⟨⟨⟨c1, c2⟩, c3⟩, c4⟩ := c
  cases hy : layL M (x.map (·.2)) 0 [] with
  | none => rw [hy] at e; cases e
  | some y =>
    rw [hy] at e
    dsimp only at e
    by_cases cp : permB ((liveL M y).map (·.2)) x.length = true
    case neg => rw [if_neg cp] at e; cases e
    rw [if_pos cp] at e
    injection e with e
    obtain ⟨rfl, rfl⟩ := Prod.mk.inj e
    obtain ⟨owner, o1, o2⟩ := lay_clean (hs := es.map (·.1)) c2 (by rw [hha]; exact hy)
    have hr : t.relaid (es.map (·.1)) (SetTable.grown x.length) = some (tabOf t M owner, ((liveL M y).map (·.2)).toArray) := by
      rw [relaid_eq, hM, o1, ← o2]; rfl
    have hp : ((liveL M y).map (·.2)).toArray.toList.Perm (List.range L.length) := by rw [← hlx]; exact permB_ok cp
    obtain ⟨L2, r1, r2, r3⟩ := in_order L es ((liveL M y).map (·.2)).toArray hrows hp
    have hs2 : (((liveL M y).map (·.2)).toArray.filterMap (es[·]?)).size = es.size := by rw [ent_size r1, r2.length_eq, hsl]
    have ris := ris_live (fun j => owner.getD j none) (List.range (M + 1)) (by
      unfold Ris
      first | exact List.pairwise_lt_range | exact List.pairwise_lt_range _)
    have ris1 : Ris ((liveOf M owner).map (·.1)) := ris.1
    rw [setRelay_eq]
    refine wpAny_bind (wpAny_setState_of ho hd (fits_of hsz hdm hfl) ?_)
    dsimp only
    refine wp_if_neg (by rw [sizeLine_eq]; omega) ?_
    try refine wpAny_bind (wpAny_pure ?_)
    rw [hr]
    dsimp only
    refine wpAny_bind ?_
    refine wp_if_neg (by rw [hs2]; simp) ?_
    try refine wpAny_bind (wpAny_pure ?_)
    refine wpAny_pure ?_
    dsimp only
    refine wpAny_storeSet_of ho hd ?_ (by rw [hs2, hsl, sizeLine_eq]; omega)
    have sb : Heap.SameBut a s.heap (s.heap.update a (Obj.putSet (((liveL M y).map (·.2)).toArray.filterMap (es[·]?)) (tabOf t M owner))) := Heap.SameBut.update ..
    refine hQ _ L2 (((liveL M y).map (·.2)).toArray.filterMap (es[·]?)) (ep + 1) (tabOf t M owner) sb ?_ r2
    exact { ob := ⟨_, store_at ho hd, ⟨hex.1, hex.2.1, hex.2.2⟩, rfl⟩, rows := r1, mask := rfl,
            pl := by show ((liveOf M owner).map (·.1)) = _; rw [o2, List.map_map]; rfl,
            hs := by rw [r3, hha, List.map_map]; simp only [List.map_map]; rfl,
            dm := rfl, ris := ris1, odd := c3, tup := fun p hpm => (tup p (r2.mem_iff.mp hpm)).beside ho hd sb,
            plain := pl, led := ld, room := by rw [r2.length_eq, ← hlx]; exact c4 }
/-- one that is not there is put in -/
theorem put_b (R : SetB w s.heap a L es ep t m x) {x0 : Addr} {k : NestedKey} (hx : TK8 s.heap k x0) (hu : A.units + 8 < cLine) {m2 : Nat} {x2 : SH} (e : stepL (nh w k) (m, x) = some (m2, x2)) (hz : L.length < 3000) {Q : Bool → Shared → Prop}
    (hQ : ∀ h' L' es' ep' t', Heap.SameBut a s.heap h' → SetB w h' a L' es' ep' t' m2 x2 → L'.Perm ((x0, k) :: L) → Q true { s with heap := h' }) :
    wpAny (model P w) A (setAddHashed a (.ref x0) (nh w k)) Q E s := by
  obtain ⟨o, ho, hex, hd⟩ := R.ob
  have hsl := ent_size R.rows
  have hlx := R.len
  have hroom := R.room
  obtain ⟨h, hh⟩ : ∃ h, nh w k = h := ⟨_, rfl⟩
  rw [hh] at e ⊢
  unfold stepL at e
  dsimp only at e
  cases ca : (x.any fun q => q.2 == h) with
  | true => rw [if_pos ca] at e; cases e
  | false =>
  rw [if_neg (by rw [ca]; exact Bool.false_ne_true)] at e
  cases hj : fstL m (fun j => x.any fun q => q.1 == j) 40 (pr0 m h) with
  | none => rw [hj] at e; cases e
  | some j =>
  rw [hj] at e
  dsimp only at e
  obtain ⟨K, k1, k2, k3, k4⟩ := fst_spec m _ 40 _ j hj
  have hjn : j ∉ t.place.toList := by
    rw [R.pl]
    intro c
    rw [mem_any, k3] at c
    cases c
  have pb : t.probe (fun i => (es[i]?.map (·.1)).getD 0) h (t.probeStart h) = some (.empty j none) := by
    rcases go_spec t R.ris R.dm (fun i => (es[i]?.map (·.1)).getD 0) h (10 * SetTable.turns t.mask) K (pr0 t.mask h) rfl (by unfold SetTable.turns; omega)
      (fun c hc => by rw [R.pl, mem_any, R.mask]; exact k4 c hc) (by rw [R.mask, k2]; exact hjn) with ⟨c, i, _, hi, he, _⟩ | ⟨_, g⟩
    · exfalso
      have hil : i < L.length := by
        have z := (List.getElem?_eq_some_iff.mp hi).1
        rw [Array.length_toList, R.psz] at z
        exact z
      have hp := List.getElem?_eq_getElem hil
      have he2 : nh w (L[i]).2 = h := by
        have q := ent_at R.rows hp
        rw [q] at he
        exact he
      have : h ∈ x.map (·.2) := by
        rw [← R.hs]
        exact List.mem_map.mpr ⟨L[i], List.getElem_mem hil, he2⟩
      obtain ⟨q, hq, e2⟩ := List.mem_map.mp this
      have z : (x.any fun q => q.2 == h) = true := List.any_eq_true.mpr ⟨q, hq, by simp [e2]⟩
      rw [ca] at z
      cases z
    · have e3 : (nth t.mask (pr0 t.mask h) K).j = j := by rw [R.mask]; exact k2
      rw [e3] at g
      exact g
  obtain ⟨c1, c2, c3⟩ := below_cut R.ris j
  generalize hpp : SetTable.below t.place j = p at c1 c2 c3
  have hpl : p ≤ L.length := by rw [← R.psz]; exact c1
  have ins : insL (j, h) x = x.take p ++ (j, h) :: x.drop p := by
    refine ins_at (j, h) x p (by omega) (fun i b hb hi => ?_) fun i b hb hi => ?_
    · exact c2 i b.1 (by rw [R.pl, List.getElem?_map, hb]; rfl) hi
    · exact c3 i b.1 (by rw [R.pl, List.getElem?_map, hb]; rfl) hi
  rw [ins] at e
  have mp : ∀ {α β : Type} (f : α → β) (l : List α) (y : α), (l.take p ++ y :: l.drop p).map f = (l.map f).take p ++ f y :: (l.map f).drop p := fun f l y => by rw [List.map_append, List.map_cons, List.map_take, List.map_drop]
  have hput2 : (t.put j).2 = p := hpp
  have hin : (SetTable.insertAt es p (h, Value.ref x0)).toList = (L.take p ++ (x0, k) :: L.drop p).map (entR w) := by
    rw [SetTable.toList_insertAt, mp, R.rows, ← hh]; rfl
  have pm : (L.take p ++ (x0, k) :: L.drop p).Perm ((x0, k) :: L) := put_perm L p (x0, k)
  have hlen : (L.take p ++ (x0, k) :: L.drop p).length = L.length + 1 := pm.length_eq
  have hs1 : ((L.take p ++ (x0, k) :: L.drop p).map fun q => nh w q.2) = (x.take p ++ (j, h) :: x.drop p).map (·.2) := by
    rw [mp, mp, R.hs, hh]
  have pl1 : (t.put j).1.place.toList = (x.take p ++ (j, h) :: x.drop p).map (·.1) := by
    rw [put_place, hpp, mp, R.pl]
  have dm1 : (t.put j).1.dummies = #[] := put_dm R.dm j
  have ris1 : Ris (t.put j).1.place.toList := by
    refine ris_insert R.ris fun z => hjn ?_
    exact List.mem_of_getElem? (by rw [Array.getElem?_toList]; exact z)
  have x1l : (x.take p ++ (j, h) :: x.drop p).length = L.length + 1 := by
    have := congrArg List.length hs1
    simp only [List.length_map] at this
    rw [← this, hlen]
  have sz1 : (t.put j).1.place.size = L.length + 1 := by rw [← Array.length_toList, pl1, List.length_map, x1l]
  have tf : (t.put j).1.tooFull = decide (m * 3 ≤ (L.length + 1) * 5) := by
    unfold SetTable.tooFull SetTable.fill
    rw [sz1, dm1]
    show decide ((L.length + 1 + 0) * 5 ≥ t.mask * 3) = _
    rw [R.mask, Nat.add_zero]
  have hp1 : (t.put j).1.plain = true := R.plain
  have ld1 : w.params.followText "set-order" = true ∨ (t.put j).1.led = true := R.led
  have mk1 : (t.put j).1.mask = m := R.mask
  rw [x1l] at e
  unfold setAddHashed
  refine wpAny_holding ?_
  rw [show (100000 : Nat) = 99999 + 1 from rfl, setAddHashedIn_succ]
  refine wpAny_bind (wpAny_setState_of ho hd R.fits ?_)
  dsimp only
  refine wp_if_neg (by simp [byScan, Value.scannable]) ?_
  try refine wpAny_bind (wpAny_pure ?_)
  unfold setSearch
  rw [show (100000 : Nat) = 99999 + 1 from rfl, setSearchFrom_succ]
  refine wpAny_bind (wpAny_bind (wpAny_setState_of ho hd R.fits ?_))
  dsimp only
  refine wp_if_neg R.calm ?_
  try refine wpAny_bind (wpAny_pure ?_)
  rw [show (none : Option SetTable.Probe).getD (t.probeStart h) = t.probeStart h from rfl, pb]
  dsimp only
  refine wpAny_pure ?_
  dsimp only
  refine wpAny_bind (wpAny_setState_of ho hd R.fits ?_)
  dsimp only
  clear pb
  generalize hpt : t.put j = pt at hput2 pl1 dm1 ris1 sz1 tf hp1 ld1 mk1 ⊢
  obtain ⟨t1, p1⟩ := pt
  dsimp only at hput2 pl1 dm1 ris1 sz1 tf hp1 ld1 mk1 ⊢
  subst hput2
  first
    | (refine wpAny_bind ?_; refine wp_if_pos hp1 ?_; refine hbv_key 8 k _ _ _ _ hx.1 hx.2 ?_)
    | refine wp_if_pos hp1 (wpAny_bind (hbv_key 8 k _ _ _ _ hx.1 hx.2 ?_))
  simp only [if_true]
  have hes := (ent_size hin).trans hlen
  generalize SetTable.insertAt es p1 (h, Value.ref x0) = es1 at hin hes ⊢
  generalize L.take p1 ++ (x0, k) :: L.drop p1 = L1 at pm hlen hs1 hin
  generalize x.take p1 ++ (j, h) :: x.drop p1 = x1 at e pl1 hs1 x1l
  refine wpAny_bind (wpAny_storeSet_of ho hd ?_ (by rw [hes, sizeLine_eq]; omega))
  have sb : Heap.SameBut a s.heap (s.heap.update a (Obj.putSet es1 t1)) := Heap.SameBut.update ..
  have ho1 := store_at (es' := es1) (t' := t1) ho hd
  generalize s.heap.update a (Obj.putSet es1 t1) = h1 at sb ho1 ⊢
  have tup1 : ∀ p ∈ L1, TK8 h1 p.2 p.1 := fun p hp => by
    rcases List.mem_cons.mp (pm.mem_iff.mp hp) with e | hp
    · rw [e]; exact hx.beside ho hd sb
    · exact (R.tup p hp).beside ho hd sb
  have rm : es1.size ≤ t1.mask := by rw [hes, mk1]; omega
  by_cases hf : m * 3 ≤ (L.length + 1) * 5
  · rw [if_pos hf] at e
    have hf' : t1.tooFull = true := by rw [tf]; exact decide_eq_true hf
    first
      | (refine wpAny_bind ?_; refine wp_if_pos (by simp [hf']) ?_)
      | (refine wp_if_pos (by simp [hf']) ?_; refine wpAny_bind ?_)
    refine grow_b (s := { s with heap := h1 }) ho1 ⟨hex.1, hex.2.1, hex.2.2⟩ rfl hin (by rw [sz1, hes]) dm1 rm hs1 tup1 hp1 ld1 e (by omega) (by rw [hsl, x1l]) ?_
    intro h2 L2 es2 ep2 t2 sb2 R2 pm2
    exact wpAny_pure (hQ h2 L2 es2 ep2 t2 (sb.trans sb2) R2 (pm2.trans pm))
  · rw [if_neg hf] at e
    injection e with e
    obtain ⟨rfl, rfl⟩ := Prod.mk.inj e
    have hf' : t1.tooFull = false := by rw [tf]; exact decide_eq_false hf
    first
      | refine wp_if_neg (by simp [hf']) ?_
      | (refine wpAny_bind ?_; refine wp_if_neg (by simp [hf']) ?_; refine wpAny_pure ?_)
    exact wpAny_pure (hQ h1 L1 es1 (ep + 1) t1 sb { ob := ⟨_, ho1, ⟨hex.1, hex.2.1, hex.2.2⟩, rfl⟩, rows := hin, mask := mk1, pl := pl1, hs := hs1, dm := dm1, ris := ris1, odd := R.odd, tup := tup1, plain := hp1, led := ld1, room := by omega } pm)
end
end Zr
set_option Elab.async false
set_option linter.all false
set_option maxRecDepth 100000
set_option maxHeartbeats 4000000
set_option autoImplicit false
namespace Zr
open PySem PySem.Spec PyProof.Rows L2 Wr
section
variable {P : Program} {w : World} {A : Around} {E : Value → Shared → Prop} {s : Shared}
theorem SetB.keep {h h' : Heap} {a : Addr} {L : List Ent} {es : Array (Int × Value)} {ep : Nat} {t : SetTable} {m : Nat} {x : SH} (R : SetB w h a L es ep t m x) (ha : ∀ o, h.get? a = some o → h'.get? a = some o) (ht : ∀ p ∈ L, TK8 h' p.2 p.1) : SetB w h' a L es ep t m x := by
  obtain ⟨o, ho, r⟩ := R.ob
  exact { R with ob := ⟨o, ha o ho, r⟩, tup := ht }
theorem setB_new {h : Heap} {a : Addr} (ho : h.get? a = some (newSt w)) : SetB w h a [] #[] 0 (.fresh 0 0 (!w.params.followText "set-order")) 7 [] where
  ob := ⟨_, ho, ⟨rfl, rfl, rfl⟩, rfl⟩
  rows := rfl
  mask := rfl
  pl := rfl
  hs := rfl
  dm := rfl
  ris := List.Pairwise.nil
  odd := rfl
  tup := fun p hp => (by cases hp)
  plain := rfl
  led := by
    show _ ∨ (!w.params.followText "set-order") = true
    cases w.params.followText "set-order"
    · exact .inr rfl
    · exact .inl rfl
  room := by
    show 0 * 5 < 7 * 3
    decide
/-- the loop that fills it -/
theorem fill_b {I : Addr} {fp wr : List Addr} {G : Array GenState → Array GenState → Prop} {n : Nat} {Pv : Nat → Value → Prop} {St : Nat → Shared → Prop} {R : Result → Shared → Prop}
    (W : WalksS P w A.in1 I fp wr G n Pv St) (S : Addr) (hSf : S ∉ fp) (ks : List Ent) (hz : ks.length < 3000) (hn : n = ks.length) (hval : ∀ i v, Pv i v → ∃ p, ks[i]? = some p ∧ v = .ref p.1)
    (h0 : Heap) (hk : ∀ p ∈ ks, TK8 h0 p.2 p.1) (hS0 : h0.get? S = none) (hw0 : ∀ b ∈ wr, h0.get? b = none) (hu : A.in1.units + 8 < cLine) {z : Nat × SH} :
    ∀ (k i : Nat) (s : Shared), n - i = k → i ≤ n → St i s → (∀ b o, h0.get? b = some o → s.heap.get? b = some o) →
      (∃ L es ep t m x, SetB w s.heap S L es ep t m x ∧ L.Perm (ks.take i) ∧ runL ((ks.drop i).map fun p => nh w p.2) (m, x) = some z) →
      (∀ s' L es ep t m x, Moved (S :: wr) G s s' → SetB w s'.heap S L es ep t m x → L.Perm ks → (∀ b o, h0.get? b = some o → s'.heap.get? b = some o) → R (.ok (.ret .none)) s') →
      codeAny (model P w) A (.builtin "set.update.loop" ⟨[.ref S, .ref I], []⟩) R s := by
  have hSw : S ∉ wr := fun h => hSf (W.sub _ h)
  have hsub : ∀ b ∈ wr, b ∈ S :: wr := fun b hb => List.mem_cons_of_mem _ hb
  have keepM : ∀ {s s' : Shared}, Moved wr G s s' → (∀ b o, h0.get? b = some o → s.heap.get? b = some o) → ∀ b o, h0.get? b = some o → s'.heap.get? b = some o := fun hm hkp b o e =>
    hm.heap b o (fun hb => by rw [hw0 b hb] at e; cases e) (hkp b o e)
  intro k
  induction k with
  | zero =>
    intro i s hk' hi hst hkp ⟨L, es, ep, t, m, x, hS, g, _⟩ hR
    obtain rfl : i = n := by omega
    refine codeAny_builtin F.entry_set_update_loop ?_
    rw [Around.under_plainId F.plain_set_update_loop _]
    show wpAny _ A.in1 (pyNext (.ref I) >>= _) _ _ s
    refine wpAny_bind (W.done s _ _ hst fun s' hm => ?_)
    show wpAny _ A.in1 (ret Value.none) _ _ s'
    have hkp' := keepM hm hkp
    rw [hn, List.take_length] at g
    exact wpAny_pure (hR s' L es ep t m x (hm.mono hsub) (hS.keep (fun o e => hm.heap S o hSw e) fun p hp => (hk p (g.mem_iff.mp hp)).keep hkp') g hkp')
  | succ k ih =>
    intro i s hk' hi hst hkp ⟨L, es, ep, t, m, x, hS, g, hrun⟩ hR
    have hlt : i < n := by omega
    refine codeAny_builtin F.entry_set_update_loop ?_
    rw [Around.under_plainId F.plain_set_update_loop _]
    show wpAny _ A.in1 (pyNext (.ref I) >>= _) _ _ s
    refine wpAny_bind (W.item i s _ _ hlt hst fun v s' hP hst' hm => ?_)
    obtain ⟨p, hp, rfl⟩ := hval i v hP
    have hkp' := keepM hm hkp
    have hS' : SetB w s'.heap S L es ep t m x := hS.keep (fun o e => hm.heap S o hSw e) fun q hq => (hk q (List.mem_of_mem_take (g.mem_iff.mp hq))).keep hkp'
    have hx : TK8 s'.heap p.2 p.1 := (hk p (List.mem_of_getElem? hp)).keep hkp'
    have dr : ks.drop i = p :: ks.drop (i + 1) := by
      have hil : i < ks.length := by omega
      rw [List.drop_eq_getElem_cons hil]
      rw [List.getElem?_eq_getElem hil] at hp
      rw [Option.some.inj hp]
    rw [dr, List.map_cons] at hrun
    unfold runL at hrun
    cases hst1 : stepL (nh w p.2) (m, x) with
    | none => rw [hst1] at hrun; cases hrun
    | some y =>
    obtain ⟨m2, x2⟩ := y
    rw [hst1] at hrun
    dsimp only at hrun
    have lz : L.length < 3000 := by
      rw [g.length_eq, List.length_take]
      omega
    show wpAny _ A.in1 (holding [Value.ref p.1] (setAdd S (.ref p.1)) >>= _) _ _ s'
    refine wpAny_bind (wpAny_holding ?_)
    unfold setAdd
    refine wpAny_holding ?_
    refine wpAny_bind ((nestedKind P w).pyHash hu hx.kd ?_)
    refine put_b (s := { s' with toks := s'.toks + (nestedKind P w).draws p.2 }) hS' hx hu hst1 lz fun h' L' es' ep' t' hsb hS2 pm => ?_
    have hkp2 : ∀ b o, h0.get? b = some o → h'.get? b = some o := fun b o e => (hsb.2 b (fun z => by rw [z, hS0] at e; cases e)).trans (hkp' b o e)
    have g2 : L'.Perm (ks.take (i + 1)) := by
      rw [List.take_succ, hp]
      exact pm.trans ((g.cons p).trans (List.perm_append_singleton p _).symm)
    refine wpAny_pure ⟨plainId_quiet F.plain_set_update_loop _, ih (i + 1) _ (by omega) hlt (W.frame _ s' _ _ hst' (Nat.le_add_right _ _) fun b hb o e => ?_) hkp2 ⟨L', es', ep', t', m2, x2, hS2, g2, hrun⟩ fun s'' L2 es2 ep2 t2 m3 x3 hm'' hS'' g'' hkp'' => ?_⟩
    · rw [hsb.2 b (fun h : b = S => hSf (by rw [← h]; exact hb))]; exact e
    · refine hR s'' L2 es2 ep2 t2 m3 x3 (Moved.trans W.gtrans ((hm.mono hsub).then_heap (Nat.le_add_right _ _) fun b o hb e => ?_) hm'') hS'' g'' hkp''
      rw [hsb.2 b (fun h : b = S => hb (by rw [h]; exact List.mem_cons_self))]; exact e
/-- set(xs), xs a list of tuples that are trees -/
theorem set_b {l : Addr} {items : Array Value} (ks : List Ent) (hz : ks.length < 3000) {z : Nat × SH} (hrun : runL (ks.map fun p => nh w p.2) (7, []) = some z) {Q : Value → Shared → Prop} (hh : A.handled = none) (hl : s.heap.IsList l items) (hit : items.toList = ks.map fun p => Value.ref p.1)
    (hk : ∀ p ∈ ks, TK8 s.heap p.2 p.1) (hu : A.units + 20 < cLine)
    (h : ∀ (h' : Heap) (tk : Nat) L es ep t m x, SetB w h' s.heap.objs.size L es ep t m x → L.Perm ks → (∀ b o, s.heap.get? b = some o → h'.get? b = some o) → Q (.ref s.heap.objs.size) { s with heap := h', toks := tk }) :
    wpAny (model P w) A (call (.type "set") [.ref l]) Q E s := by
  have hisz : items.size = ks.length := by rw [← Array.length_toList, hit, List.length_map]
  obtain ⟨c, tl, hmro⟩ := F.called_set.mro
  have hmade := F.called_set.made
  have hsub := F.called_set.sub
  refine wpAny_call (codeAny_of_tree ?_)
  show wpAny _ _ (callAny (.type "set") _) _ _ _
  refine wpAny_pure ⟨Code.quiet_builtin _ (by decide +kernel), codeAny_builtin F.entry_type_call ?_⟩
  rw [Around.under_plain (weight_type_call_type "set" [.ref l] []) rfl]
  have h1 := F.called_set.notType
  have h2 := F.called_set.canCreate
  have hct := F.typeCall_set_1 (.ref l)
  repeat (any_goals (first | assumption | wp_step))
  refine codeAny_mono (code_set_led1 (.ref l) (E := E) (Q₁ := fun obj s₁ => obj = .ref s.heap.objs.size ∧ s₁ = { s with heap := s.heap.push (newSt w) }) ⟨rfl, rfl⟩) fun r s₁ hr => ?_
  cases r with
  | error e => exact hr
  | ok fl =>
    cases fl with
    | ret obj =>
      obtain ⟨rfl, rfl⟩ := hr
      have hS : (s.heap.push (newSt w)).get? s.heap.objs.size = some (newSt w) := Heap.get?_push_size _ rfl
      have hT : Shared.TypeIs { s with heap := s.heap.push (newSt w) } (.ref s.heap.objs.size) "set" := ⟨_, hS, rfl⟩
      have hli := F.called_set.init.lookup
      have hbi := F.called_set.init.bind (.ref s.heap.objs.size)
      repeat (any_goals (first | assumption | wp_step))
      refine codeAny_mono (codeAny_call_builtin (R := wants (fun r s₂ => r = .none ∧ ∃ h' tk L es ep t m x, s₂ = { s with heap := h', toks := tk } ∧ SetB w h' s.heap.objs.size L es ep t m x ∧ L.Perm ks ∧
          (∀ b o, s.heap.get? b = some o → h'.get? b = some o)) E) F.called_set.init.plain F.entry_set_init (check_set_init_1 hT ?_)) fun r₂ s₂ hr₂ => ?_
      · obtain ⟨ol, hol, hcl, nl, hdl⟩ := hl
        obtain ⟨ocls, odict, odata, oslots⟩ := ol
        simp only at hcl hdl
        subst hcl; subst hdl
        have hol' : (s.heap.push (newSt w)).get? l = some { cls := .type "list", dict := odict, data := .seq items nl, slots := oslots } := Heap.get?_push_of_some _ hol
        have hsls := F.sub_list_set
        have hslf := F.sub_list_frozenset
        have hne : (Value.type "list" == Value.type "dict") = false := by decide
        have hl1 : (s.heap.push (newSt w)).IsList l items := ⟨_, hol', rfl, nl, rfl⟩
        unfold Builtin.«set.__init__» noKeywords Builtin.Frozenset.updateFrom
        generalize hPI : pyIter = PI
        wp_walk
        subst hPI
        refine wpAny_pyIter_list hl1 ?_
        refine wpAny_bind (wpAny_runValue ?_)
        have hlS : l < s.heap.objs.size := Heap.lt_size hol
        have hh3 : A.in1.in1.in1.handled = none := by simp [hh]
        have hneI : l ≠ (s.heap.push (newSt w)).objs.size := by
          rw [Heap.size_push]; exact Nat.ne_of_lt (Nat.lt_succ_of_lt hlS)
        have hSf : s.heap.objs.size ∉ [(s.heap.push (newSt w)).objs.size, l] := by
          rw [Heap.size_push]; simp only [List.mem_cons, List.mem_singleton, List.not_mem_nil, or_false, not_or]
          exact ⟨Nat.ne_of_lt (Nat.lt_succ_self _), Nat.ne_of_gt hlS⟩
        have hval : ∀ (i : Nat) (v : Value), items[i]? = some v → ∃ p, ks[i]? = some p ∧ v = .ref p.1 := fun i v hv => by
          have q : items.toList[i]? = some v := by rw [Array.getElem?_toList]; exact hv
          rw [hit, List.getElem?_map] at q
          cases hq : ks[i]? with
          | none => rw [hq] at q; cases q
          | some p =>
            rw [hq] at q
            exact ⟨p, rfl, (Option.some.inj q).symm⟩
        have none_of : ∀ b, s.heap.objs.size ≤ b → s.heap.get? b = none := fun b hb => by
          cases q : s.heap.get? b with
          | none => rfl
          | some o => exact absurd (Nat.lt_of_lt_of_le (Heap.lt_size q) hb) (Nat.lt_irrefl _)
        refine fill_b (z := z) ((Walks.list hh3 _ l hneI items).toS) s.heap.objs.size
          hSf ks hz hisz hval s.heap hk (none_of _ (Nat.le_refl _)) (fun b hb => none_of b (by
            rw [List.mem_singleton.mp hb, Heap.size_push]
            exact Nat.le_succ _)) (by simp only [Around.in1_units]; omega) (items.size - 0) 0 _ (by omega) (Nat.zero_le _)
          ⟨⟨_, Heap.get?_push_size _ rfl, rfl, rfl⟩, (hl1.push _)⟩ (fun b o e => Heap.get?_push_of_some _ (Heap.get?_push_of_some _ e)) ?hS0 ?hR
        case hS0 => exact ⟨[], #[], 0, _, 7, [], setB_new (Heap.get?_push_of_some _ hS), List.Perm.refl _, hrun⟩
        case hR =>
          intro s' L es ep t m x hm hS' g' hkp
          obtain ⟨h', g2, d', tk', os'⟩ := s'
          have eg : g2 = s.gens := hm.gens
          have ed : d' = s.drawn := hm.drawn
          have eo : os' = s.os := hm.os
          subst eg; subst ed; subst eo
          show wpAny _ _ _ _ _ _
          refine wpAny_pure ?_
          show wpAny _ _ (ret Value.none) _ _ _
          exact wpAny_pure ⟨rfl, h', tk', L, es, ep, t, m, x, rfl, hS', g', hkp⟩
      · cases r₂ with
        | error e => exact hr₂
        | ok fl₂ =>
          cases fl₂ with
          | ret r =>
            obtain ⟨rfl, h', tk, L, es, ep, t, m, x, rfl, hS', g', hk'⟩ := hr₂
            repeat (any_goals (first | assumption | wp_step))
            exact h _ _ _ _ _ _ _ _ hS' g' hk'
          | _ => exact hr₂.elim
    | _ => exact hr.elim
end
end Zr
set_option Elab.async false
set_option linter.all false
set_option maxRecDepth 100000
set_option maxHeartbeats 4000000
set_option autoImplicit false
namespace Zr
open PySem PySem.Spec PySem.SeqAt PyProof.Rows L2 Wr
section
variable {P : Program} {w : World} {A : Around} {E : Value → Shared → Prop} {s : Shared}
theorem sorted_b {a : Addr} {L : List Ent} {es : Array (Int × Value)} {ep : Nat} {t : SetTable} {m : Nat} {x : SH} (nd : (L.map (·.2)).Nodup) (hfew : L.length < 4000) {Q : Value → Shared → Prop} (R : SetB w s.heap a L es ep t m x) (hh : A.handled = none) {d : Nat} (hu : A.units + d + 30 < cLine)
    (hB : ∀ p ∈ L, UD (d + 1) p.2 = true ∧ p.2 ≠ .tup [])
    (hQ : ∀ s' p (out : Array Value) (c : Nat) (L' : List Ent), (∀ b o, s.heap.get? b = some o → s'.heap.get? b = some o) → s'.gens = s.gens → s'.os = s.os → s.heap.objs.size ≤ p →
      s'.heap.get? p = some (seqObj "list" out c) → out.toList = L'.map (fun q => Value.ref q.1) → L'.Perm L → L'.Pairwise (fun q r => klt r.2 q.2 = false) → Q (.ref p) s') :
    wpAny (model P w) A (call (.builtin "sorted") [.ref a]) Q E s := by
  obtain ⟨o, ho, hex, hd⟩ := R.ob
  have hsz := ent_size R.rows
  refine Calls.call_function_entry kind_sorted plain_sorted entry_sorted (args_sorted1 _) ?_
  unfold Builtin.«sorted»
  refine wpAny_bind (m := checkCount "sorted" 1 1 _) (wpAny_pure ?_)
  refine wpAny_bind (collect_set (A := A.in1) hh ⟨o, ho, hex.1, hd⟩ R.fits (by unfold scanBound; omega) R.ris R.led fun s1 vs k1 hz g1 o1 pm => ?_)
  have hes : es.toList.map (·.2) = L.map fun q => Value.ref q.1 := by rw [R.rows, List.map_map]; rfl
  rw [hes] at pm
  have one : ∀ q ∈ L, ∀ r ∈ L, q.1 = r.1 → q = r := fun q hq r hr e => by
    have a1 := R.tup q hq
    rw [e] at a1
    exact Prod.ext e (a1.inj (R.tup r hr))
  have nL : L.Nodup := nodup_unmap nd
  have nref : (L.map fun q => Value.ref q.1).Nodup := by
    refine List.pairwise_map.mpr (List.Pairwise.imp_of_mem (fun {q r} hq hr hne e => ?_) nL)
    injection e with e
    exact hne (one q hq r hr e)
  have perm_of : ∀ L1 : List Ent, (∀ q ∈ L1, q ∈ L) → (L1.map (fun q => Value.ref q.1)).Perm (L.map fun q => Value.ref q.1) → L1.Perm L := fun L1 hs pm1 => by
    refine (List.perm_ext_iff_of_nodup (nodup_unmap (pm1.nodup_iff.mpr nref)) nL).mpr fun q => ⟨hs q, fun hq => ?_⟩
    obtain ⟨r, hr, e⟩ := List.mem_map.mp (pm1.mem_iff.mpr (List.mem_map.mpr ⟨q, hq, rfl⟩))
    injection e with e
    rw [← one r (hs r hr) q hq e]
    exact hr
  have hvl : vs.length < 4000 := by rw [pm.length_eq, List.length_map]; exact hfew
  refine wpAny_bind (wpAny_newList ?_ (by rw [sizeLine_eq]; omega))
  have hoL : (s1.heap.push (seqObj "list" vs.toArray 0)).get? s1.heap.objs.size = some (seqObj "list" vs.toArray 0) := Heap.get?_push_size _ rfl
  have tk : ∀ q ∈ L, NI (s1.heap.push (seqObj "list" vs.toArray 0)) q.2 (.ref q.1) := fun q hq => ((R.tup q hq).keep fun b u e => Heap.get?_push_of_some _ (k1 b u e)).1
  have srt : Srt (s1.heap.push (seqObj "list" vs.toArray 0)) d (keyAt (s1.heap.push (seqObj "list" vs.toArray 0))) vs := fun v hv => by
    obtain ⟨q, hq, e⟩ := List.mem_map.mp (pm.mem_iff.mp hv)
    rw [← e, keyAt_is (tk q hq)]
    exact ⟨tk q hq, hB q hq⟩
  refine wpAny_bind (wpAny_holding (wpAny_call_entry slot_list_sort ⟨_, hoL, rfl⟩ entry_list_sort (sort_trees (s := { s1 with heap := s1.heap.push (seqObj "list" vs.toArray 0) }) hoL (by omega) (d := d) (by simp only [Around.in1_units]; omega) srt
    fun out a1 a2 => ⟨_, rfl, ?_⟩) (args_list_sort _)))
  obtain ⟨c, hc⟩ := sortedHeap_at (vs := vs) (out := out) hoL
  obtain ⟨L', e', hs'⟩ := ents_of L out.toList fun v hv => by
    obtain ⟨q, hq, e⟩ := List.mem_map.mp (pm.mem_iff.mp (a1.mem_iff.mp hv))
    exact ⟨q, hq, e.symm⟩
  have pL : L'.Perm L := perm_of L' hs' (by rw [← e']; exact a1.trans pm)
  have pw : L'.Pairwise (fun q r => klt r.2 q.2 = false) := by
    rw [e'] at a2
    refine List.Pairwise.imp_of_mem (fun {q r} hq hr hle => ?_) (List.pairwise_map.mp a2)
    rwa [keyAt_is (tk q (hs' q hq)), keyAt_is (tk r (hs' r hr))] at hle
  refine wpAny_pure ⟨_, rfl, hQ _ s1.heap.objs.size out c L' (fun b u e => ?_) g1 o1 hz hc e' pL pw⟩
  have q := k1 b u e
  have hlt := Heap.lt_size q
  show (sortedHeap (s1.heap.push (seqObj "list" vs.toArray 0)) s1.heap.objs.size vs out).get? b = some u
  rw [sortedHeap_old (Nat.ne_of_lt hlt) (by rw [size_push']; exact Nat.lt_succ_of_lt hlt)]
  exact Heap.get?_push_of_some _ q
end
/-- the set at a, without its tuples -/
def SetB0 (w : World) (h : Heap) (a : Addr) (L : List Ent) : Prop :=
  (L.map (·.2)).Nodup ∧ L.length < 3000 ∧ ∃ (es : Array (Int × Value)) (ep : Nat) (t : SetTable) (m : Nat) (x : SH), (∃ o, h.get? a = some o ∧ o.ExactSet ∧ o.data = .set es ep t) ∧ es.toList = L.map (entR w) ∧ t.mask = m ∧ t.place.toList = x.map (·.1) ∧
    (L.map fun p => nh w p.2) = x.map (·.2) ∧ t.dummies = #[] ∧ Ris t.place.toList ∧ m % 2 = 1 ∧ t.plain = true ∧ (w.params.followText "set-order" = true ∨ t.led = true) ∧ L.length * 5 < m * 3
def SetBO (w : World) (a : Addr) (L : List Ent) : HO := .ext fun h => SetB0 w h a L
theorem SetB.n0 {w : World} {h : Heap} {a : Addr} {L : List Ent} {es : Array (Int × Value)} {ep : Nat} {t : SetTable} {m : Nat} {x : SH} (R : SetB w h a L es ep t m x) (nd : (L.map (·.2)).Nodup) (hz : L.length < 3000) : SetB0 w h a L :=
  ⟨nd, hz, es, ep, t, m, x, R.ob, R.rows, R.mask, R.pl, R.hs, R.dm, R.ris, R.odd, R.plain, R.led, R.room⟩
theorem SetB0.full {w : World} {h : Heap} {a : Addr} {L : List Ent} (R : SetB0 w h a L) (ht : ∀ p ∈ L, TK8 h p.2 p.1) : (L.map (·.2)).Nodup ∧ L.length < 3000 ∧ ∃ es ep t m x, SetB w h a L es ep t m x := by
  obtain ⟨nd, hz, es, ep, t, m, x, h1, h2, h3, h4, h5, h6, h7, h8, h9, h10, h11⟩ := R
  exact ⟨nd, hz, es, ep, t, m, x, ⟨h1, h2, h3, h4, h5, h6, h7, h8, ht, h9, h10, h11⟩⟩
theorem setBO_new {P : Program} {w : World} {H : Hp} {h : Heap} {a : Addr} {L : List Ent} (R : SetB0 w h a L) : ObjOk P w H h a (SetBO w a L) := by
  have ⟨nd, hz, es, ep, t, m, x, ⟨o, ho, r⟩, q⟩ := R
  refine ⟨R, ⟨o, ho⟩, fun h1 h2 p k => ?_⟩
  have ⟨nd', hz', es', ep', t', m', x', ⟨o', ho', r'⟩, q'⟩ := p
  exact ⟨nd', hz', es', ep', t', m', x', ⟨o', k o' ho', r'⟩, q'⟩
section
variable {X : Cx}
def rSetB (K : PySem.W.Frag) (w : World) : List V → Hp → VK → Prop := fun xs H Q => ∃ (l : Addr) (ks : List Ent) (z : Nat × SH), xs = [V.ref l] ∧ SqL K H l (ks.map fun p => V.ref p.1) ∧ (∀ p ∈ ks, TV K H p.2 (.ref p.1) ∧ p.2.depth ≤ 8) ∧ (ks.map (·.2)).Nodup ∧ ks.length < 3000 ∧
  runL (ks.map fun p => nh w p.2) (7, []) = some z ∧ ∀ a L, H a = none → L.Perm ks → Q (.ref a) (upd H a (SetBO w a L))
theorem cr_setB (hc : X.calm = true) (hu : X.A.units + 64 < cLine) : CallR X (.type "set") (rSetB X.K X.w) := by
  intro pins s σ H xs us Q I r h
  obtain ⟨l, ks, z, rfl, hl, hk, nd, hz3, hrun, q⟩ := h
  rw [Vals.ref1 r]
  obtain ⟨its, rv, pl, hz⟩ := I.list hl
  have hn : H s.heap.objs.size = none := I.hok.fresh (Nat.le_refl _)
  refine set_b (P := X.prog) (w := X.w) ks hz3 hrun (I.ok.hd hc) pl.isList (by simpa using vals_ents rv) (fun p hp => ⟨inv_ni I _ _ _ (hk p hp).1 rfl, (hk p hp).2⟩) (by omega) fun h' tk L es ep t m x R g k => ?_
  exact ⟨.ref s.heap.objs.size, upd H s.heap.objs.size (SetBO X.w s.heap.objs.size L), I.laid (t' := tk) k (Nat.le_refl _) (setBO_new (R.n0 ((g.map (·.2)).nodup_iff.mpr nd) (by rw [g.length_eq]; exact hz3))), rfl, q _ L hn g⟩
def rSortedB (K : PySem.W.Frag) (w : World) : List V → Hp → VK → Prop := fun vs H Q => ∃ (a : Addr) (L : List Ent) (d : Nat), vs = [V.ref a] ∧ H a = some (SetBO w a L) ∧ d ≤ 6 ∧ (∀ p ∈ L, TV K H p.2 (.ref p.1) ∧ UD (d + 1) p.2 = true ∧ p.2 ≠ .tup []) ∧
  ∀ (L' : List Ent) (p : Addr), L'.Perm L → (L'.map (·.2)).Nodup → L'.Pairwise (fun q r => klt r.2 q.2 = false) → H p = none → Q (.ref p) (upd H p (.lst (L'.map fun q => V.ref q.1)))
theorem cr_sortedB (hc : X.calm = true) (hu : X.A.units + 64 < cLine) : CallR X (.builtin "sorted") (rSortedB X.K X.w) := by
  intro pins s σ H vs us Q I r h
  obtain ⟨a, L, d, rfl, ha, hd, hk, q⟩ := h
  have R0 : SetB0 X.w s.heap a L := (I.hok a _ ha).1
  obtain ⟨nd, hz, es, ep, t, m, x, R⟩ := R0.full fun p hp => ⟨inv_ni I _ _ _ (hk p hp).1 rfl, by have := UD.depth _ _ (hk p hp).2.1; omega⟩
  rw [Vals.ref1 r]
  refine sorted_b nd (by omega) R (I.ok.hd hc) (d := d) (by omega) (fun p hp => (hk p hp).2) fun s' p out c L' k g o hp hg hout pm pw => ?_
  have hfew : L'.length < 4000 := by rw [pm.length_eq]; omega
  have hlen : (L'.map fun q => V.ref q.1).length ≤ sizeLine := by rw [List.length_map, sizeLine_eq]; omega
  have hn : H p = none := I.hok.fresh hp
  have hv : Vals (L'.map fun q => V.ref q.1) out.toList := by rw [hout]; exact ents_vals L'
  have J : Inv X pins σ (upd H p (.lst (L'.map fun q => V.ref q.1))) { s with heap := s'.heap, gens := s'.gens, drawn := s'.drawn, toks := s'.toks } :=
    I.call (ch := []) (Un.laid k hp hn) (I.hok.laid k hp ⟨hlen, out.toList, c, hv, hg⟩) (by rw [g]; exact I.bare) (fun _ z => nomatch z)
  have e : s' = { s with heap := s'.heap, gens := s'.gens, drawn := s'.drawn, toks := s'.toks } := by
    cases s'
    cases s
    cases o
    rfl
  rw [e]
  exact ⟨.ref p, _, J, rfl, q L' p pm ((pm.map (·.2)).nodup_iff.mpr nd) pw hn⟩
end
end Zr
set_option Elab.async false
set_option linter.all false
set_option maxRecDepth 100000
set_option maxHeartbeats 4000000
set_option autoImplicit false
namespace Zr
open PySem PySem.Spec PyProof.Rows L2 Wr
def numsOf : List NestedKey → Option (List Int)
  | [] => some []
  | .num i :: r => (numsOf r).map (i :: ·)
  | _ :: _ => none
def flatH : NestedKey → Option Int
  | .tup ks => (numsOf ks).map hT
  | _ => none
def hsOf : List NestedKey → Option (List Int)
  | [] => some []
  | k :: r => match flatH k with
    | some h => (hsOf r).map (h :: ·)
    | none => none
theorem nums_hash {w : World} : ∀ (ks : List NestedKey) (ns : List Int), numsOf ks = some ns → NestedKey.hashes w ks = ns.map hashInt
  | [], ns, h => by cases h; rfl
  | .num i :: r, ns, h => by
    obtain ⟨m, hm, rfl⟩ := Option.map_eq_some_iff.mp h
    have ih := nums_hash (w := w) r m hm
    simp only [NestedKey.hashes, NestedKey.hash, List.map_cons, ih]
  | .none :: r, ns, h => nomatch h
  | .text _ :: r, ns, h => nomatch h
  | .tup _ :: r, ns, h => nomatch h
theorem flat_hash {w : World} {k : NestedKey} {h : Int} (e : flatH k = some h) : nh w k = h := by
  cases k with
  | tup ks =>
    obtain ⟨ns, hn, rfl⟩ := Option.map_eq_some_iff.mp e
    show NestedKey.hash w (.tup ks) = _
    simp only [NestedKey.hash, nums_hash ks ns hn]
    rfl
  | none => cases e
  | num _ => cases e
  | text _ => cases e
theorem hs_hash {w : World} : ∀ (ks : List NestedKey) (hs : List Int), hsOf ks = some hs → ks.map (nh w) = hs
  | [], hs, h => by cases h; rfl
  | k :: r, hs, h => by
    unfold hsOf at h
    cases hf : flatH k with
    | none => rw [hf] at h; cases h
    | some x =>
      rw [hf] at h
      obtain ⟨m, hm, rfl⟩ := Option.map_eq_some_iff.mp h
      rw [List.map_cons, hs_hash r m hm, flat_hash hf]
def okH (ks : List NestedKey) : Bool := match hsOf ks with
  | some hs => okS hs
  | none => false
theorem okH_run {w : World} {ks : List NestedKey} (h : okH ks = true) : ∃ z, runL (ks.map (nh w)) (7, []) = some z := by
  unfold okH at h
  cases hh : hsOf ks with
  | none => rw [hh] at h; cases h
  | some hs =>
    rw [hh] at h
    rw [hs_hash ks hs hh]
    exact Option.isSome_iff_exists.mp h
/-- sorted(set(xs)), none twice, the hashes run through -/
def kSortB (d : Nat) : K1 := fun xs h => (lstArg xs h).bind fun ys => (keysV ys).bind fun ks => if goodK d ks && ndK ks && decide (ks.length < 3000) && decide (d ≤ 6) && okH ks then some (.ref h.length, h ++ [.lst ((sortK ks).map vaK)]) else none
section
variable {g : Gd} {X : Cx} {W : WX} {n : Nat} {pos p pos2 p2 : Pos} {e : Expr}
theorem e_sortB (d : Nat) {f : Da} (hm : X.mg "sorted" = none) (hm2 : X.mg "set" = none) (ha : SA g X W (n + 1) [e] f)
    (hg : Gl X "sorted" := by rfl) (hg2 : Gl X "set" := by rfl)
    (hs : starEach [.Call (.Name "set" p2) [e] [] pos2] X.env = (false, eval (.Call (.Name "set" p2) [e] [] pos2) X.env) :: starEach [] X.env := by rfl)
    (hpl : (backTo pos (starEach [] X.env)).any (·.1) = false := by rfl)
    (hs2 : starEach [e] X.env = (false, eval e X.env) :: starEach [] X.env := by rfl) (hpl2 : (backTo pos2 (starEach [] X.env)).any (·.1) = false := by rfl) :
    SE g X W (n + 1) (.Call (.Name "sorted" p) [.Call (.Name "set" p2) [e] [] pos2] [] pos) (dB (kSortB d) f) := by
  intro C
  have hun := C.units
  have inner := pe_callTy (p := p2) (T := "set") (cr_setB C.calm (by omega)) hg2 hm2 (by decide +kernel) (ha C) (by decide) (by decide) hs2 hpl2
  have outer := pe_callB (p := p) (id := "sorted") (cr_sortedB C.calm (by omega)) hg hm (by decide +kernel) (pa_cons inner pa_nil hs) (by decide) (by decide) hs hpl
  refine outer.imp ?_
  rintro σ H Q ⟨ρ, s, hp, R, L, h⟩
  refine aBE h R L fun xs h1 ρ1 H1 vs S1 R1 r1 L1 p1 => ?_
  cases q : kSortB d xs h1 with
  | none => rw [q] at p1; exact p1.elim
  | some w =>
    rw [q] at p1
    obtain ⟨ys, e1, q⟩ := Option.bind_eq_some_iff.mp q
    obtain ⟨ks, e2, q⟩ := Option.bind_eq_some_iff.mp q
    by_cases hl : (goodK d ks && ndK ks && decide (ks.length < 3000) && decide (d ≤ 6) && okH ks) = true
    · rw [if_pos hl] at q
      cases q
      simp only [Bool.and_eq_true, decide_eq_true_eq] at hl
      obtain ⟨⟨⟨⟨hg1, hnd⟩, hz⟩, hd6⟩, hok⟩ := hl
      obtain ⟨a, us, rfl, e3, rv⟩ := lstArg_inv R1 r1 e1
      obtain ⟨Ls, rfl, e5, ht⟩ := ents_rvs ys ks us e2 (fun k hk => by obtain ⟨l, e, _⟩ := UD.tup (goodK_at hg1 hk).1; exact ⟨l, e⟩) rv
      have mk : ∀ p ∈ Ls, p.2 ∈ ks := fun p hp => by rw [← e5]; exact List.mem_map_of_mem hp
      obtain ⟨z, hrun⟩ := okH_run (w := X.w) hok
      rw [C.K]
      refine ⟨a, Ls, z, rfl, .inl (.inl e3), fun p hp => ⟨(ht p hp).1, by have := UD.depth _ _ (goodK_at hg1 (mk p hp)).1; omega⟩, by rw [e5]; exact ndK_nodup hnd, by rw [← List.length_map (as := Ls) (·.2), e5]; exact hz,
        by rw [← hrun, ← e5, List.map_map]; rfl, fun p L2 hn pm2 => ?_⟩
      obtain ⟨S2, R2⟩ := R1.laid (u := SetBO X.w p L2) hn
      refine ⟨p, L2, d, rfl, upd_same, hd6, fun q hq => ?_, fun L3 p2 pm nd pw hn2 => ?_⟩
      · have hm := pm2.mem_iff.mp hq
        refine ⟨?_, goodK_at hg1 (mk q hm)⟩
        have z2 := Rv.step R1 S2 _ _ (ht q hm).2
        have kk : keyV (vaK q.2) = some q.2 := by
          obtain ⟨y, hy⟩ : ∃ y, keyV y = some q.2 := by
            have : ∀ (ys : List Va) (ks : List NestedKey), keysV ys = some ks → ∀ k ∈ ks, ∃ y, keyV y = some k := by
              intro ys
              induction ys with
              | nil => intro ks e k hk; simp only [keysV] at e; cases e; cases hk
              | cons y ys ih =>
                intro ks e k hk
                simp only [keysV] at e
                split at e
                · rename_i k0 h0
                  split at e
                  · rename_i t ht
                    cases e
                    rcases List.mem_cons.mp hk with z | z
                    · exact ⟨y, by rw [z]; exact h0⟩
                    · exact ih t ht k z
                  · cases e
                · cases e
            exact this ys ks e2 q.2 (mk q hm)
          rw [key_va y _ hy]; exact hy
        exact rv_tv _ _ _ kk z2
      · have pm3 := pm.trans pm2
        have keyse : L3.map (·.2) = sortK ks := by
          refine rising_eq (d := d + 1) (fun z hz => ?_) (fun z => ?_) ?_ (sortK_sorted (d := d + 1) ks fun k hk => (goodK_at hg1 hk).1)
          · obtain ⟨q, hq, rfl⟩ := List.mem_map.mp hz
            exact (goodK_at hg1 (mk q (pm3.mem_iff.mp hq))).1
          · rw [sortK_mem, ← e5]
            exact (pm3.map (·.2)).mem_iff
          · have T := klt_tot (d + 1)
            have nd2 := List.pairwise_map.mp nd
            refine List.pairwise_map.mpr (List.Pairwise.imp_of_mem (fun {q r} hq hr hh => ?_) (nd2.and pw))
            rcases T.tri q.2 r.2 (goodK_at hg1 (mk q (pm3.mem_iff.mp hq))).1 (goodK_at hg1 (mk r (pm3.mem_iff.mp hr))).1 with z | z | z
            · exact z
            · exact absurd z hh.1
            · rw [hh.2] at z; cases z
        have rr := rvs_ents (g := g) (ρ := ρ1) (H := upd H1 p (SetBO X.w p L2)) L3 fun q hq => Rv.step R1 S2 _ _ (ht q (pm3.mem_iff.mp hq)).2
        rw [keyse] at rr
        obtain ⟨S4, R4, r4⟩ := new_lst R2 hn2 rr
        exact p1 _ _ _ (S2.trans S4) R4 r4
    · rw [if_neg hl] at q
      cases q
end
end Zr
set_option Elab.async false
set_option linter.all false
set_option maxRecDepth 100000
set_option maxHeartbeats 4000000
set_option autoImplicit false
namespace K31
open PySem PySem.Spec PyProof.Rows L2 Wr Pg
def top (i : Nat) : Stmt := PySem.Challenge.pw_wishrules_k31_whole_books_counted.main.body.getD i (.Pass ⟨0, 0, 0, 0⟩)
abbrev s__law_cell : Stmt := top 18
abbrev s__law_pick : Stmt := top 19
abbrev s_all_books : Stmt := top 14
abbrev s_how_many_books : Stmt := top 16
abbrev s_is_whole : Stmt := top 7
abbrev s_is_book : Stmt := top 8
abbrev s_look_book : Stmt := top 9
abbrev s_size : Stmt := top 11
abbrev s__law_wishes : Stmt := top 20
abbrev s_turned : Stmt := top 12
abbrev s_is_wish : Stmt := top 10
abbrev s_renamed : Stmt := top 13
abbrev s_law : Stmt := top 23
structure Ft (g : Gd) (mg : Str → Option Value) : Prop where
  cold : g.hot = none
  b_all : mg "all" = none
  b_bool : mg "bool" = none
  b_int : mg "int" = none
  b_isinstance : mg "isinstance" = none
  b_len : mg "len" = none
  b_list : mg "list" = none
  b_range : mg "range" = none
  b_set : mg "set" = none
  b_sorted : mg "sorted" = none
  b_sum : mg "sum" = none
  b_tuple : mg "tuple" = none
  b_zip : mg "zip" = none
  f__law_cell : mg "_law_cell" = some (.ref (He.ga g.K "_law_cell"))
  d__law_cell : FnP g.K "_law_cell" s__law_cell
  f__law_pick : mg "_law_pick" = some (.ref (He.ga g.K "_law_pick"))
  d__law_pick : FnP g.K "_law_pick" s__law_pick
  f_all_books : mg "all_books" = some (.ref (He.ga g.K "all_books"))
  d_all_books : FnP g.K "all_books" s_all_books
  f_how_many_books : mg "how_many_books" = some (.ref (He.ga g.K "how_many_books"))
  d_how_many_books : FnP g.K "how_many_books" s_how_many_books
  f_is_whole : mg "is_whole" = some (.ref (He.ga g.K "is_whole"))
  d_is_whole : FnP g.K "is_whole" s_is_whole
  f_is_book : mg "is_book" = some (.ref (He.ga g.K "is_book"))
  d_is_book : FnP g.K "is_book" s_is_book
  f_look_book : mg "look_book" = some (.ref (He.ga g.K "look_book"))
  d_look_book : FnP g.K "look_book" s_look_book
  f_size : mg "size" = some (.ref (He.ga g.K "size"))
  d_size : FnP g.K "size" s_size
  f__law_wishes : mg "_law_wishes" = some (.ref (He.ga g.K "_law_wishes"))
  d__law_wishes : FnP g.K "_law_wishes" s__law_wishes
  f_turned : mg "turned" = some (.ref (He.ga g.K "turned"))
  d_turned : FnP g.K "turned" s_turned
  f_is_wish : mg "is_wish" = some (.ref (He.ga g.K "is_wish"))
  d_is_wish : FnP g.K "is_wish" s_is_wish
  f_renamed : mg "renamed" = some (.ref (He.ga g.K "renamed"))
  d_renamed : FnP g.K "renamed" s_renamed
  f_law : mg "law" = some (.ref (He.ga g.K "law"))
  d_law : FnP g.K "law" s_law
  c_GREATEST : Con1 g mg "GREATEST" c_GREATEST
  c_WISHES : Con1 g mg "WISHES" c_WISHES
  exn : Exn g mg [0, 1, 5]
def P_law_1 (n0 : Nat) (s : Sg) (h : Hs) : RS :=
    (dPutK kPutN (dVar 7) (dOp kAdd (dOp kAdd (dSl (dVar 3) oNone (oSome (dVar 8))) (dTup (aCons (dOp kAdd (dOp kIxU (dVar 3) (dVar 8)) (dC (.int 1))) aNil))) (dSl (dVar 3) (oSome (dOp kAdd (dVar 8) (dC (.int 1)))) oNone)) (dC (.bl true))) s h
def P_law_2 (n0 : Nat) (s : Sg) (h : Hs) : RS :=
    (dForT [0, 2, 3, 7] (dRng1 (aCons (dC (.int 6)) aNil)) (.nm 8) (fun n0 => (P_law_1 n0))) s h
def P_law_3 (n0 : Nat) (s : Sg) (h : Hs) : RS :=
    (dIfS (dTest (dOp kNe (dB (kSortL 0) (aCons (dB kListU (aCons (dVar 7) aNil)) aNil)) (dVar 2))) (dRet (dC (.bl false))) dNx) s h
def P_law_4 (n0 : Nat) (s : Sg) (h : Hs) : RS :=
    (dForT [0, 2, 7] (dIt (dVar 6)) (.nm 3) (fun n0 => (P_law_2 n0))) s h
def P_law_5 (n0 : Nat) (s : Sg) (h : Hs) : RS :=
    (dSeqT n0 [0, 2, 6, 7] (dSet 7 dNewD)
    (dSeqT n0 [0, 2, 7] (P_law_4 n0)
    (P_law_3 n0))) s h
def P_law_6 (F_all_books : Fn) (n0 : Nat) (s : Sg) (h : Hs) : RS :=
    (dSet 6 (dCall F_all_books 1 (aCons (dOp kSub (dVar 1) (dC (.int 1))) aNil))) s h
def P_law_7 (F_all_books : Fn) (n0 : Nat) (s : Sg) (h : Hs) : RS :=
    (dSeqT n0 [0, 2, 6] (P_law_6 F_all_books n0)
    (P_law_5 n0)) s h
def P_law_8 (n0 : Nat) (s : Sg) (h : Hs) : RS :=
    (dSet 10 (dOp kAdd (dVar 10) (dOp kFdivW (dOp kMul (dOp kMul (dOp kMul (dOp kAdd (dVar 12) (dC (.int 1))) (dOp kAdd (dVar 12) (dC (.int 2)))) (dOp kAdd (dVar 12) (dC (.int 3)))) (dOp kAdd (dVar 12) (dC (.int 4)))) (dC (.int 24))))) s h
def P_law_9 (n0 : Nat) (s : Sg) (h : Hs) : RS :=
    (dSeqT n0 [9, 10, 12] (dSet 12 (dOp kSub (dVar 9) (dVar 11)))
    (P_law_8 n0)) s h
def P_law_10 (F_all_books : Fn) (F_how_many_books : Fn) (n0 : Nat) (s : Sg) (h : Hs) : RS :=
    (dRet (dAndV (dOp kEq (dCall F_how_many_books 1 (aCons (dVar 9) aNil)) (dVar 10)) (dOp kEq (dCall F_all_books 1 (aCons (dC (.int 0)) aNil)) (dLst (aCons (dOp kRepT (dTup (aCons (dC (.int 0)) aNil)) (dC (.int 6))) aNil))))) s h
def P_law_11 (n0 : Nat) (s : Sg) (h : Hs) : RS :=
    (dForT [9, 10] (dRng1 (aCons (dOp kAdd (dVar 9) (dC (.int 1))) aNil)) (.nm 11) (fun n0 => (P_law_9 n0))) s h
def P_law_12 (F_all_books : Fn) (F_how_many_books : Fn) (n0 : Nat) (s : Sg) (h : Hs) : RS :=
    (dSeqT n0 [9, 10] (P_law_11 n0)
    (P_law_10 F_all_books F_how_many_books n0)) s h
def P_law_13 (F_all_books : Fn) (F_how_many_books : Fn) (n0 : Nat) (s : Sg) (h : Hs) : RS :=
    (dSeqT n0 [9, 10] (dSet 10 (dC (.int 0)))
    (P_law_12 F_all_books F_how_many_books n0)) s h
def P_law_14 (F__law_pick : Fn) (n0 : Nat) (s : Sg) (h : Hs) : RS :=
    (dSet 9 (dCall F__law_pick 3 (aCons (dVar 0) (aCons (dC (.int 3)) (aCons (dC (.int 40)) aNil))))) s h
def P_law_15 (F__law_pick : Fn) (F_all_books : Fn) (F_how_many_books : Fn) (n0 : Nat) (s : Sg) (h : Hs) : RS :=
    (dSeqT n0 [9] (P_law_14 F__law_pick n0)
    (P_law_13 F_all_books F_how_many_books n0)) s h
def P_law_16 (F_all_books : Fn) (n0 : Nat) (s : Sg) (h : Hs) : RS :=
    (dIfS (dTest (dOp kGt (dVar 1) (dC (.int 0)))) (P_law_7 F_all_books n0) dNx) s h
def P_law_17 (F__law_pick : Fn) (F_all_books : Fn) (F_how_many_books : Fn) (n0 : Nat) (s : Sg) (h : Hs) : RS :=
    (dSeqT n0 [0] (P_law_16 F_all_books n0)
    (P_law_15 F__law_pick F_all_books F_how_many_books n0)) s h
def P_law_18 (F_turned : Fn) (F_renamed : Fn) (n0 : Nat) (s : Sg) (h : Hs) : RS :=
    (dIfS (dOr (dTest (dOp kNotIn (dCall F_renamed 2 (aCons (dVar 5) (aCons (dVar 4) aNil))) (dVar 2))) (dTest (dOp kNotIn (dCall F_turned 1 (aCons (dVar 5) aNil)) (dVar 2)))) (dRet (dC (.bl false))) dNx) s h
def P_law_19 (F__law_pick : Fn) (F_all_books : Fn) (F_how_many_books : Fn) (F_turned : Fn) (F_renamed : Fn) (n0 : Nat) (s : Sg) (h : Hs) : RS :=
    (dSeqT n0 [0, 1, 2] (P_law_18 F_turned F_renamed n0)
    (P_law_17 F__law_pick F_all_books F_how_many_books n0)) s h
def P_law_20 (F__law_pick : Fn) (n0 : Nat) (s : Sg) (h : Hs) : RS :=
    (dSet 5 (dOp kIxU (dVar 2) (dCall F__law_pick 3 (aCons (dVar 0) (aCons (dC (.int 2)) (aCons (dB kLen (aCons (dVar 2) aNil)) aNil)))))) s h
def P_law_21 (F__law_pick : Fn) (F_all_books : Fn) (F_how_many_books : Fn) (F_turned : Fn) (F_renamed : Fn) (n0 : Nat) (s : Sg) (h : Hs) : RS :=
    (dSeqT n0 [0, 1, 2, 4, 5] (P_law_20 F__law_pick n0)
    (P_law_19 F__law_pick F_all_books F_how_many_books F_turned F_renamed n0)) s h
def P_law_22 (F__law_pick : Fn) (F__law_wishes : Fn) (n0 : Nat) (s : Sg) (h : Hs) : RS :=
    (dSet 4 (dOp kIxU (dCall0 F__law_wishes) (dCall F__law_pick 3 (aCons (dVar 0) (aCons (dC (.int 1)) (aCons (dC (.int 6)) aNil)))))) s h
def P_law_23 (F__law_pick : Fn) (F_all_books : Fn) (F_how_many_books : Fn) (F__law_wishes : Fn) (F_turned : Fn) (F_renamed : Fn) (n0 : Nat) (s : Sg) (h : Hs) : RS :=
    (dSeqT n0 [0, 1, 2, 4] (P_law_22 F__law_pick F__law_wishes n0)
    (P_law_21 F__law_pick F_all_books F_how_many_books F_turned F_renamed n0)) s h
def P_law_24 (F_size : Fn) (F_is_book : Fn) (n0 : Nat) (s : Sg) (h : Hs) : RS :=
    (dIfS (dTest (dOp kNe (dComp [3] (dIt (dVar 2)) (.nm 3) (dOr (dNot (dTest (dCall F_is_book 1 (aCons (dVar 3) aNil)))) (dTest (dOp kNe (dCall F_size 1 (aCons (dVar 3) aNil)) (dVar 1)))) (dVar 3)) (dLst aNil))) (dRet (dC (.bl false))) dNx) s h
def P_law_25 (F__law_pick : Fn) (F_all_books : Fn) (F_how_many_books : Fn) (F_size : Fn) (F_is_book : Fn) (F__law_wishes : Fn) (F_turned : Fn) (F_renamed : Fn) (n0 : Nat) (s : Sg) (h : Hs) : RS :=
    (dSeqT n0 [0, 1, 2] (P_law_24 F_size F_is_book n0)
    (P_law_23 F__law_pick F_all_books F_how_many_books F__law_wishes F_turned F_renamed n0)) s h
def P_law_26 (F_how_many_books : Fn) (n0 : Nat) (s : Sg) (h : Hs) : RS :=
    (dIfS (dOr (dTest (dOp kNe (dB kLen (aCons (dVar 2) aNil)) (dCall F_how_many_books 1 (aCons (dVar 1) aNil)))) (dTest (dOp kNe (dVar 2) (dB (Zr.kSortB 0) (aCons (dVar 2) aNil))))) (dRet (dC (.bl false))) dNx) s h
def P_law_27 (F__law_pick : Fn) (F_all_books : Fn) (F_how_many_books : Fn) (F_size : Fn) (F_is_book : Fn) (F__law_wishes : Fn) (F_turned : Fn) (F_renamed : Fn) (n0 : Nat) (s : Sg) (h : Hs) : RS :=
    (dSeqT n0 [0, 1, 2] (P_law_26 F_how_many_books n0)
    (P_law_25 F__law_pick F_all_books F_how_many_books F_size F_is_book F__law_wishes F_turned F_renamed n0)) s h
def P_law_28 (F__law_pick : Fn) (F_all_books : Fn) (F_how_many_books : Fn) (F_size : Fn) (F_is_book : Fn) (F__law_wishes : Fn) (F_turned : Fn) (F_renamed : Fn) (n0 : Nat) (s : Sg) (h : Hs) : RS :=
    (dSeqT n0 [0, 1, 2] (dSet 2 (dCall F_all_books 1 (aCons (dVar 1) aNil)))
    (P_law_27 F__law_pick F_all_books F_how_many_books F_size F_is_book F__law_wishes F_turned F_renamed n0)) s h
def P_law_29 (F__law_pick : Fn) (n0 : Nat) (s : Sg) (h : Hs) : RS :=
    (dSet 1 (dCall F__law_pick 3 (aCons (dVar 0) (aCons (dC (.int 0)) (aCons (dC (.int 5)) aNil))))) s h
def P_law_30 (F__law_pick : Fn) (F_all_books : Fn) (F_how_many_books : Fn) (F_size : Fn) (F_is_book : Fn) (F__law_wishes : Fn) (F_turned : Fn) (F_renamed : Fn) (n0 : Nat) (s : Sg) (h : Hs) : RS :=
    (dSeqT n0 [0, 1] (P_law_29 F__law_pick n0)
    (P_law_28 F__law_pick F_all_books F_how_many_books F_size F_is_book F__law_wishes F_turned F_renamed n0)) s h
def D_law (F__law_pick : Fn) (F_all_books : Fn) (F_how_many_books : Fn) (F_size : Fn) (F_is_book : Fn) (F__law_wishes : Fn) (F_turned : Fn) (F_renamed : Fn) : Fn := fnD 13
    (dBase fun n0 => (P_law_30 F__law_pick F_all_books F_how_many_books F_size F_is_book F__law_wishes F_turned F_renamed n0))
def law (ns : List Int) : Fn := D_law (_law_pick ns) all_books how_many_books size is_book _law_wishes turned renamed
theorem sc__law_cell : FnScope ["script", "k"] ["script", "k"] (defScope s__law_cell) := ⟨rfl, rfl, rfl, by decide +kernel, rfl, by decide +kernel, by decide +kernel⟩
theorem bi__law_cell : BindsAll "_law_cell" s__law_cell ["script", "k"] := fun _ _ _ _ _ _ us hl => match us, hl with | [_, _], _ => rfl
theorem ok__law_cell {P : Program} {w : World} {g : Gd} {mg : Str → Option Value} {base : Heap} (t : Ft g mg) {k : Nat} : Okf P w g mg base (k + 1) "_law_cell" ["script", "k"] 2 (D__law_cell g.ns) :=
  mk_fn t.d__law_cell t.f__law_cell bi__law_cell sc__law_cell rfl rfl fun f cdv A outer s H E =>
    (b_cons (s_if (t_cmp o_lt p_lt (e_var 1) (e_callB c_len p_lenS t.b_len (a_cons (e_var 0) a_nil))) (b_one (s_ret (e_ixS (e_var 0) (e_var 1)))) b_nil)
    (b_cons (s_if (t_cmp o_eq p_eqS (e_var 0) (e_lst a_nil)) (b_one (s_ret e_int)) b_nil)
    (b_one (s_ret (e_op o_add p_add (e_op o_mul p_mul (e_ixS (e_var 0) (e_op o_mod p_mod (e_var 1) (e_callB c_len p_lenS t.b_len (a_cons (e_var 0) a_nil)))) e_int) (e_var 1))))))
theorem sc__law_pick : FnScope ["script", "k", "many", "drawn"] ["script", "k", "many"] (defScope s__law_pick) := ⟨rfl, rfl, rfl, by decide +kernel, rfl, by decide +kernel, by decide +kernel⟩
theorem bi__law_pick : BindsAll "_law_pick" s__law_pick ["script", "k", "many"] := fun _ _ _ _ _ _ us hl => match us, hl with | [_, _, _], _ => rfl
theorem ok__law_pick {P : Program} {w : World} {g : Gd} {mg : Str → Option Value} {base : Heap} (t : Ft g mg) {k : Nat} {F__law_cell : Fn} (h__law_cell : Okf P w g mg base k "_law_cell" ["script", "k"] 2 F__law_cell) : Okf P w g mg base (k + 1) "_law_pick" ["script", "k", "many"] 3 (D__law_pick F__law_cell) :=
  mk_fn t.d__law_pick t.f__law_pick bi__law_pick sc__law_pick rfl rfl fun f cdv A outer s H E =>
    (b_cons (s_set 3 (e_op o_mod p_mod (e_op o_mul p_mul (e_op o_add p_add (e_callF h__law_cell rfl (a_cons (e_var 0) (a_cons (e_var 1) a_nil))) (e_op o_mul p_mul e_int (e_op o_add p_add (e_var 1) e_int))) e_int) e_int))
    (b_one (s_ret (e_op o_mod p_mod (e_op o_mod p_mod (e_op o_add p_add (e_op o_mul p_mul (e_var 3) (e_var 3)) (e_op o_fdivW p_fdivW (e_var 3) e_int)) e_int) (e_var 2)))))
theorem sc_all_books : FnScope ["many", "made", "place", "longer", "some", "one"] ["many"] (defScope s_all_books) := ⟨rfl, rfl, rfl, by decide +kernel, rfl, by decide +kernel, by decide +kernel⟩
theorem bi_all_books : BindsAll "all_books" s_all_books ["many"] := fun _ _ _ _ _ _ us hl => match us, hl with | [_], _ => rfl
theorem ok_all_books {P : Program} {w : World} {g : Gd} {mg : Str → Option Value} {base : Heap} (t : Ft g mg) {k : Nat} : Okf P w g mg base (k + 1) "all_books" ["many"] 1 (D_all_books) :=
  mk_fn t.d_all_books t.f_all_books bi_all_books sc_all_books rfl rfl fun f cdv A outer s H E =>
    (b_cons (s_set 1 (e_lst (a_cons (e_tup a_nil) a_nil)))
    (b_cons (s_forC [0, 1] (i_range1 (b := false) t.b_range (a_cons e_int a_nil)) (g_name 2) (b_cons (s_set 3 (e_lst a_nil))
    (b_cons (s_forC [0, 3] (i_seq (b := false) (e_var 1)) (g_name 4) (b_one (s_expr (e_extend (e_var 3) (a_cons (e_comp [("one", 5)] (i_range1 (b := false) t.b_range (a_cons (e_op o_add p_add (e_op o_sub p_sub (e_var 0) (e_callB c_sumA p_sumA t.b_sum (a_cons (e_var 4) a_nil))) e_int) a_nil)) (blkOk_by (by rfl)) (fun _ _ _ _ _ => (g_name 5)) (fun _ _ _ _ _ => ts_nil) (fun _ _ _ _ _ => (e_op o_add p_add (e_var 4) (e_tup (a_cons (e_var 5) a_nil))))) a_nil)))))
    (b_one (s_set 1 (e_var 3))))))
    (b_one (s_ret (e_comp [("some", 4)] (i_seq (b := false) (e_var 1)) (blkOk_by (by rfl)) (fun _ _ _ _ _ => (g_name 4)) (fun _ _ _ _ _ => ts_nil) (fun _ _ _ _ _ => (e_op o_add p_add (e_var 4) (e_tup (a_cons (e_op o_sub p_sub (e_var 0) (e_callB c_sumA p_sumA t.b_sum (a_cons (e_var 4) a_nil))) a_nil)))))))))
theorem sc_how_many_books : FnScope ["many", "made", "place"] ["many"] (defScope s_how_many_books) := ⟨rfl, rfl, rfl, by decide +kernel, rfl, by decide +kernel, by decide +kernel⟩
theorem bi_how_many_books : BindsAll "how_many_books" s_how_many_books ["many"] := fun _ _ _ _ _ _ us hl => match us, hl with | [_], _ => rfl
theorem ok_how_many_books {P : Program} {w : World} {g : Gd} {mg : Str → Option Value} {base : Heap} (t : Ft g mg) {k : Nat} : Okf P w g mg base (k + 1) "how_many_books" ["many"] 1 (D_how_many_books) :=
  mk_fn t.d_how_many_books t.f_how_many_books bi_how_many_books sc_how_many_books rfl rfl fun f cdv A outer s H E =>
    (b_cons (s_set 1 e_int)
    (b_cons (s_forC [0, 1] (i_range1 (b := false) t.b_range (a_cons e_int a_nil)) (g_name 2) (b_one (s_set 1 (e_op o_mul p_mul (e_var 1) (e_op o_add p_add (e_op o_add p_add (e_var 0) (e_var 2)) e_int)))))
    (b_one (s_ret (e_op o_fdivW p_fdivW (e_var 1) e_int)))))
theorem sc_is_whole : FnScope ["thing", "low", "high"] ["thing", "low", "high"] (defScope s_is_whole) := ⟨rfl, rfl, rfl, by decide +kernel, rfl, by decide +kernel, by decide +kernel⟩
theorem bi_is_whole : BindsAll "is_whole" s_is_whole ["thing", "low", "high"] := fun _ _ _ _ _ _ us hl => match us, hl with | [_, _, _], _ => rfl
theorem ok_is_whole {P : Program} {w : World} {g : Gd} {mg : Str → Option Value} {base : Heap} (t : Ft g mg) {k : Nat} : Okf P w g mg base (k + 1) "is_whole" ["thing", "low", "high"] 3 (D_is_whole) :=
  mk_fn t.d_is_whole t.f_is_whole bi_is_whole sc_is_whole rfl rfl fun f cdv A outer s H E =>
    (b_one (s_ret (e_and (e_callB c_isi p_isi t.b_isinstance (a_cons (e_var 0) (a_cons (e_bltn (T := "int") (u := .type "int") t.b_int (by decide +kernel) rfl) a_nil))) (e_and (e_not (e_callB c_isi p_isi t.b_isinstance (a_cons (e_var 0) (a_cons (e_bltn (T := "bool") (u := .type "bool") t.b_bool (by decide +kernel) rfl) a_nil)))) (e_one (e_chain o_le o_le p_le p_le (e_var 1) (e_var 0) (e_var 2)))))))
theorem sc_is_book : FnScope ["thing", "one"] ["thing"] (defScope s_is_book) := ⟨rfl, rfl, rfl, by decide +kernel, rfl, by decide +kernel, by decide +kernel⟩
theorem bi_is_book : BindsAll "is_book" s_is_book ["thing"] := fun _ _ _ _ _ _ us hl => match us, hl with | [_], _ => rfl
theorem ok_is_book {P : Program} {w : World} {g : Gd} {mg : Str → Option Value} {base : Heap} (t : Ft g mg) {k : Nat} {F_is_whole : Fn} (h_is_whole : Okf P w g mg base k "is_whole" ["thing", "low", "high"] 3 F_is_whole) : Okf P w g mg base (k + 1) "is_book" ["thing"] 1 (D_is_book F_is_whole) :=
  mk_fn t.d_is_book t.f_is_book bi_is_book sc_is_book rfl rfl fun f cdv A outer s H E =>
    (b_one (s_ret (e_and (e_callB c_isi p_isi t.b_isinstance (a_cons (e_var 0) (a_cons (e_bltn (T := "tuple") (u := .type "tuple") t.b_tuple (by decide +kernel) rfl) a_nil))) (e_and (e_cmp o_eq p_eq (e_callB c_len p_len t.b_len (a_cons (e_var 0) a_nil)) e_int) (e_one (e_callB c_all p_all t.b_all (a_cons (e_comp [("one", 1)] (i_seq (b := false) (e_var 0)) (blkOk_by (by rfl)) (fun _ _ _ _ _ => (g_name 1)) (fun _ _ _ _ _ => ts_nil) (fun _ _ _ _ _ => (e_callF h_is_whole rfl (a_cons (e_var 1) (a_cons e_int (a_cons (e_con t.c_GREATEST) a_nil)))))) a_nil)))))))
theorem sc_look_book : FnScope ["book"] ["book"] (defScope s_look_book) := ⟨rfl, rfl, rfl, by decide +kernel, rfl, by decide +kernel, by decide +kernel⟩
theorem bi_look_book : BindsAll "look_book" s_look_book ["book"] := fun _ _ _ _ _ _ us hl => match us, hl with | [_], _ => rfl
theorem ok_look_book {P : Program} {w : World} {g : Gd} {mg : Str → Option Value} {base : Heap} (t : Ft g mg) {k : Nat} {F_is_book : Fn} (h_is_book : Okf P w g mg base k "is_book" ["thing"] 1 F_is_book) : Okf P w g mg base (k + 1) "look_book" ["book"] 1 (D_look_book F_is_book) :=
  mk_fn t.d_look_book t.f_look_book bi_look_book sc_look_book rfl rfl fun f cdv A outer s H E =>
    (b_one (s_if (t_not (t_val (e_callF h_is_book rfl (a_cons (e_var 0) a_nil)))) (b_one (s_raise 1 t.exn)) b_nil))
theorem sc_size : FnScope ["book"] ["book"] (defScope s_size) := ⟨rfl, rfl, rfl, by decide +kernel, rfl, by decide +kernel, by decide +kernel⟩
theorem bi_size : BindsAll "size" s_size ["book"] := fun _ _ _ _ _ _ us hl => match us, hl with | [_], _ => rfl
theorem ok_size {P : Program} {w : World} {g : Gd} {mg : Str → Option Value} {base : Heap} (t : Ft g mg) {k : Nat} {F_look_book : Fn} (h_look_book : Okf P w g mg base k "look_book" ["book"] 1 F_look_book) : Okf P w g mg base (k + 1) "size" ["book"] 1 (D_size F_look_book) :=
  mk_fn t.d_size t.f_size bi_size sc_size rfl rfl fun f cdv A outer s H E =>
    (b_cons (s_expr (e_callF h_look_book rfl (a_cons (e_var 0) a_nil)))
    (b_one (s_ret (e_callB c_sumA p_sumA t.b_sum (a_cons (e_var 0) a_nil)))))
theorem sc__law_wishes : FnScope [] [] (defScope s__law_wishes) := ⟨rfl, rfl, rfl, by decide +kernel, rfl, by decide +kernel, by decide +kernel⟩
theorem bi__law_wishes : BindsAll "_law_wishes" s__law_wishes [] := fun _ _ _ _ _ _ us hl => match us, hl with | [], _ => rfl
theorem ok__law_wishes {P : Program} {w : World} {g : Gd} {mg : Str → Option Value} {base : Heap} (t : Ft g mg) {k : Nat} : Okf P w g mg base (k + 1) "_law_wishes" [] 0 (D__law_wishes) :=
  mk_fn t.d__law_wishes t.f__law_wishes bi__law_wishes sc__law_wishes rfl rfl fun f cdv A outer s H E =>
    (b_one (s_ret (e_lst (a_cons (e_tup (a_cons e_int (a_cons e_int (a_cons e_int a_nil)))) (a_cons (e_tup (a_cons e_int (a_cons e_int (a_cons e_int a_nil)))) (a_cons (e_tup (a_cons e_int (a_cons e_int (a_cons e_int a_nil)))) (a_cons (e_tup (a_cons e_int (a_cons e_int (a_cons e_int a_nil)))) (a_cons (e_tup (a_cons e_int (a_cons e_int (a_cons e_int a_nil)))) (a_cons (e_tup (a_cons e_int (a_cons e_int (a_cons e_int a_nil)))) a_nil)))))))))
theorem sc_turned : FnScope ["book", "wish"] ["book"] (defScope s_turned) := ⟨rfl, rfl, rfl, by decide +kernel, rfl, by decide +kernel, by decide +kernel⟩
theorem bi_turned : BindsAll "turned" s_turned ["book"] := fun _ _ _ _ _ _ us hl => match us, hl with | [_], _ => rfl
theorem ok_turned {P : Program} {w : World} {g : Gd} {mg : Str → Option Value} {base : Heap} (t : Ft g mg) {k : Nat} {F_look_book : Fn} (h_look_book : Okf P w g mg base k "look_book" ["book"] 1 F_look_book) : Okf P w g mg base (k + 1) "turned" ["book"] 1 (D_turned F_look_book) :=
  mk_fn t.d_turned t.f_turned bi_turned sc_turned rfl rfl fun f cdv A outer s H E =>
    (b_cons (s_expr (e_callF h_look_book rfl (a_cons (e_var 0) a_nil)))
    (b_one (s_ret (e_callT c_tuple p_tuple t.b_tuple (a_cons (e_comp [("wish", 1)] (i_seq (b := false) (e_con t.c_WISHES)) (blkOk_by (by rfl)) (fun _ _ _ _ _ => (g_name 1)) (fun _ _ _ _ _ => ts_nil) (fun _ _ _ _ _ => (e_ixU (e_var 0) (e_index (e_con t.c_WISHES) (a_cons (e_rev (e_var 1)) a_nil))))) a_nil)))))
theorem sc_is_wish : FnScope ["thing", "one"] ["thing"] (defScope s_is_wish) := ⟨rfl, rfl, rfl, by decide +kernel, rfl, by decide +kernel, by decide +kernel⟩
theorem bi_is_wish : BindsAll "is_wish" s_is_wish ["thing"] := fun _ _ _ _ _ _ us hl => match us, hl with | [_], _ => rfl
theorem ok_is_wish {P : Program} {w : World} {g : Gd} {mg : Str → Option Value} {base : Heap} (t : Ft g mg) {k : Nat} {F_is_whole : Fn} (h_is_whole : Okf P w g mg base k "is_whole" ["thing", "low", "high"] 3 F_is_whole) : Okf P w g mg base (k + 1) "is_wish" ["thing"] 1 (D_is_wish F_is_whole) :=
  mk_fn t.d_is_wish t.f_is_wish bi_is_wish sc_is_wish rfl rfl fun f cdv A outer s H E =>
    (b_cons (s_if (t_bool (w_or (t_not (t_val (e_callB c_isi p_isi t.b_isinstance (a_cons (e_var 0) (a_cons (e_bltn (T := "tuple") (u := .type "tuple") t.b_tuple (by decide +kernel) rfl) a_nil))))) (w_or (t_cmp o_ne p_ne (e_callB c_len p_len t.b_len (a_cons (e_var 0) a_nil)) e_int) (w_or1 (t_not (t_val (e_callB c_all p_all t.b_all (a_cons (e_comp [("one", 1)] (i_seq (b := false) (e_var 0)) (blkOk_by (by rfl)) (fun _ _ _ _ _ => (g_name 1)) (fun _ _ _ _ _ => ts_nil) (fun _ _ _ _ _ => (e_callF h_is_whole rfl (a_cons (e_var 1) (a_cons e_int (a_cons e_int a_nil)))))) a_nil)))))))) (b_one (s_ret e_bl)) b_nil)
    (b_one (s_ret (e_cmp o_in p_in (e_var 0) (e_con t.c_WISHES)))))
theorem sc_renamed : FnScope ["book", "order", "made", "wish", "many", "thing"] ["book", "order"] (defScope s_renamed) := ⟨rfl, rfl, rfl, by decide +kernel, rfl, by decide +kernel, by decide +kernel⟩
theorem bi_renamed : BindsAll "renamed" s_renamed ["book", "order"] := fun _ _ _ _ _ _ us hl => match us, hl with | [_, _], _ => rfl
theorem ok_renamed {P : Program} {w : World} {g : Gd} {mg : Str → Option Value} {base : Heap} (t : Ft g mg) {k : Nat} {F_look_book : Fn} {F_is_wish : Fn} (h_look_book : Okf P w g mg base k "look_book" ["book"] 1 F_look_book) (h_is_wish : Okf P w g mg base k "is_wish" ["thing"] 1 F_is_wish) : Okf P w g mg base (k + 1) "renamed" ["book", "order"] 2 (D_renamed F_look_book F_is_wish) :=
  mk_fn t.d_renamed t.f_renamed bi_renamed sc_renamed rfl rfl fun f cdv A outer s H E =>
    (b_cons (s_expr (e_callF h_look_book rfl (a_cons (e_var 0) a_nil)))
    (b_cons (s_if (t_not (t_val (e_callF h_is_wish rfl (a_cons (e_var 1) a_nil)))) (b_one (s_raise 5 t.exn)) b_nil)
    (b_cons (s_set 2 e_dnew)
    (b_cons (s_forC [1, 2] (i_zip t.b_zip (a_cons (e_con t.c_WISHES) (a_cons (e_var 0) a_nil))) (g_tup (sn_cons 3 (sn_cons 4 .nil))) (b_one (s_putX (e_var 2) (e_callT c_tuple p_tuple t.b_tuple (a_cons (e_comp [("thing", 5)] (i_seq (b := false) (e_var 3)) (blkOk_by (by rfl)) (fun _ _ _ _ _ => (g_name 5)) (fun _ _ _ _ _ => ts_nil) (fun _ _ _ _ _ => (e_ixU (e_var 1) (e_var 5)))) a_nil)) (e_var 4))))
    (b_one (s_ret (e_callT c_tuple p_tuple t.b_tuple (a_cons (e_comp [("wish", 3)] (i_seq (b := false) (e_con t.c_WISHES)) (blkOk_by (by rfl)) (fun _ _ _ _ _ => (g_name 3)) (fun _ _ _ _ _ => ts_nil) (fun _ _ _ _ _ => (e_dgX (e_var 2) (e_var 3)))) a_nil))))))))
theorem sc_law : FnScope ["script", "many", "every", "book", "order", "some", "less", "made", "number", "great", "total", "first", "rest"] ["script"] (defScope s_law) := ⟨rfl, rfl, rfl, by decide +kernel, rfl, by decide +kernel, by decide +kernel⟩
theorem bi_law : BindsAll "law" s_law ["script"] := fun _ _ _ _ _ _ us hl => match us, hl with | [_], _ => rfl
theorem ok_law {P : Program} {w : World} {g : Gd} {mg : Str → Option Value} {base : Heap} (t : Ft g mg) {k : Nat} {F__law_pick : Fn} {F_all_books : Fn} {F_how_many_books : Fn} {F_size : Fn} {F_is_book : Fn} {F__law_wishes : Fn} {F_turned : Fn} {F_renamed : Fn} (h__law_pick : Okf P w g mg base k "_law_pick" ["script", "k", "many"] 3 F__law_pick) (h_all_books : Okf P w g mg base k "all_books" ["many"] 1 F_all_books) (h_how_many_books : Okf P w g mg base k "how_many_books" ["many"] 1 F_how_many_books) (h_size : Okf P w g mg base k "size" ["book"] 1 F_size) (h_is_book : Okf P w g mg base k "is_book" ["thing"] 1 F_is_book) (h__law_wishes : Okf P w g mg base k "_law_wishes" [] 0 F__law_wishes) (h_turned : Okf P w g mg base k "turned" ["book"] 1 F_turned) (h_renamed : Okf P w g mg base k "renamed" ["book", "order"] 2 F_renamed) : Okf P w g mg base (k + 1) "law" ["script"] 1 (D_law F__law_pick F_all_books F_how_many_books F_size F_is_book F__law_wishes F_turned F_renamed) :=
  mk_fn t.d_law t.f_law bi_law sc_law rfl rfl fun f cdv A outer s H E =>
    (b_base (bn_cons [0, 1] (sn_lift (s_set 1 (e_callF h__law_pick rfl (a_cons (e_var 0) (a_cons e_int (a_cons e_int a_nil))))))
    (bn_cons [0, 1, 2] (sn_lift (s_set 2 (e_callF h_all_books rfl (a_cons (e_var 1) a_nil))))
    (bn_cons [0, 1, 2] (sn_if (t_bool (w_or (t_cmp o_ne p_ne (e_callB c_len p_len t.b_len (a_cons (e_var 2) a_nil)) (e_callF h_how_many_books rfl (a_cons (e_var 1) a_nil))) (w_or1 (t_cmp o_ne p_ne (e_var 2) (Zr.e_sortB 0 t.b_sorted t.b_set (a_cons (e_var 2) a_nil)))))) (bn_one (sn_lift (s_ret e_bl))) bn_nil)
    (bn_cons [0, 1, 2] (sn_if (t_cmp o_ne p_ne (e_comp [("book", 3)] (i_seq (b := false) (e_var 2)) (blkOk_by (by rfl)) (fun _ _ _ _ _ => (g_name 3)) (fun _ _ _ _ _ => (ts_one (t_bool (w_or (t_not (t_val (e_callF h_is_book rfl (a_cons (e_var 3) a_nil)))) (w_or1 (t_cmp o_ne p_ne (e_callF h_size rfl (a_cons (e_var 3) a_nil)) (e_var 1))))))) (fun _ _ _ _ _ => (e_var 3))) (e_lst a_nil)) (bn_one (sn_lift (s_ret e_bl))) bn_nil)
    (bn_cons [0, 1, 2, 4] (sn_lift (s_set 4 (e_ixU (e_callF0 h__law_wishes rfl) (e_callF h__law_pick rfl (a_cons (e_var 0) (a_cons e_int (a_cons e_int a_nil)))))))
    (bn_cons [0, 1, 2, 4, 5] (sn_lift (s_set 5 (e_ixU (e_var 2) (e_callF h__law_pick rfl (a_cons (e_var 0) (a_cons e_int (a_cons (e_callB c_len p_len t.b_len (a_cons (e_var 2) a_nil)) a_nil)))))))
    (bn_cons [0, 1, 2] (sn_if (t_bool (w_or (t_cmp o_notin p_notin (e_callF h_renamed rfl (a_cons (e_var 5) (a_cons (e_var 4) a_nil))) (e_var 2)) (w_or1 (t_cmp o_notin p_notin (e_callF h_turned rfl (a_cons (e_var 5) a_nil)) (e_var 2))))) (bn_one (sn_lift (s_ret e_bl))) bn_nil)
    (bn_cons [0] (sn_if (t_cmp o_gt p_gt (e_var 1) e_int) (bn_cons [0, 2, 6] (sn_lift (s_set 6 (e_callF h_all_books rfl (a_cons (e_op o_sub p_sub (e_var 1) e_int) a_nil))))
    (bn_cons [0, 2, 6, 7] (sn_lift (s_set 7 e_dnew))
    (bn_cons [0, 2, 7] (sn_lift (s_forT [0, 2, 7] (i_seq (b := false) (e_var 6)) (g_name 3) (bn_one (sn_lift (s_forT [0, 2, 3, 7] (i_range1 (b := false) t.b_range (a_cons e_int a_nil)) (g_name 8) (bn_one (sn_lift (s_putN (e_var 7) (e_op o_add p_add (e_op o_add p_add (e_slice (e_var 3) o_none (o_some (e_var 8))) (e_tup (a_cons (e_op o_add p_add (e_ixU (e_var 3) (e_var 8)) e_int) a_nil))) (e_slice (e_var 3) (o_some (e_op o_add p_add (e_var 8) e_int)) o_none)) e_bl))))))))
    (bn_one (sn_if (t_cmp o_ne p_ne (e_callB (c_sortL 0) (p_sortL 0) t.b_sorted (a_cons (e_callT c_listU p_listU t.b_list (a_cons (e_var 7) a_nil)) a_nil)) (e_var 2)) (bn_one (sn_lift (s_ret e_bl))) bn_nil))))) bn_nil)
    (bn_cons [9] (sn_lift (s_set 9 (e_callF h__law_pick rfl (a_cons (e_var 0) (a_cons e_int (a_cons e_int a_nil))))))
    (bn_cons [9, 10] (sn_lift (s_set 10 e_int))
    (bn_cons [9, 10] (sn_lift (s_forT [9, 10] (i_range1 (b := false) t.b_range (a_cons (e_op o_add p_add (e_var 9) e_int) a_nil)) (g_name 11) (bn_cons [9, 10, 12] (sn_lift (s_set 12 (e_op o_sub p_sub (e_var 9) (e_var 11))))
    (bn_one (sn_lift (s_set 10 (e_op o_add p_add (e_var 10) (e_op o_fdivW p_fdivW (e_op o_mul p_mul (e_op o_mul p_mul (e_op o_mul p_mul (e_op o_add p_add (e_var 12) e_int) (e_op o_add p_add (e_var 12) e_int)) (e_op o_add p_add (e_var 12) e_int)) (e_op o_add p_add (e_var 12) e_int)) e_int))))))))
    (bn_one (sn_lift (s_ret (e_and (e_cmp o_eq p_eq (e_callF h_how_many_books rfl (a_cons (e_var 9) a_nil)) (e_var 10)) (e_one (e_cmp o_eq p_eq (e_callF h_all_books rfl (a_cons e_int a_nil)) (e_lst (a_cons (e_op o_repT p_repT (e_tup (a_cons e_int a_nil)) e_int) a_nil))))))))))))))))))))
def dd__law_cell : He.DefD := ⟨("_law_cell", none), "_law_cell", "_law_cell", defArgs s__law_cell, defBody s__law_cell, defScope s__law_cell, [], []⟩
def dd__law_pick : He.DefD := ⟨("_law_pick", none), "_law_pick", "_law_pick", defArgs s__law_pick, defBody s__law_pick, defScope s__law_pick, [], []⟩
def dd_all_books : He.DefD := ⟨("all_books", none), "all_books", "all_books", defArgs s_all_books, defBody s_all_books, defScope s_all_books, [], []⟩
def dd_how_many_books : He.DefD := ⟨("how_many_books", none), "how_many_books", "how_many_books", defArgs s_how_many_books, defBody s_how_many_books, defScope s_how_many_books, [], []⟩
def dd_is_whole : He.DefD := ⟨("is_whole", none), "is_whole", "is_whole", defArgs s_is_whole, defBody s_is_whole, defScope s_is_whole, [], []⟩
def dd_is_book : He.DefD := ⟨("is_book", none), "is_book", "is_book", defArgs s_is_book, defBody s_is_book, defScope s_is_book, [], []⟩
def dd_look_book : He.DefD := ⟨("look_book", none), "look_book", "look_book", defArgs s_look_book, defBody s_look_book, defScope s_look_book, [], []⟩
def dd_size : He.DefD := ⟨("size", none), "size", "size", defArgs s_size, defBody s_size, defScope s_size, [], []⟩
def dd__law_wishes : He.DefD := ⟨("_law_wishes", none), "_law_wishes", "_law_wishes", defArgs s__law_wishes, defBody s__law_wishes, defScope s__law_wishes, [], []⟩
def dd_turned : He.DefD := ⟨("turned", none), "turned", "turned", defArgs s_turned, defBody s_turned, defScope s_turned, [], []⟩
def dd_is_wish : He.DefD := ⟨("is_wish", none), "is_wish", "is_wish", defArgs s_is_wish, defBody s_is_wish, defScope s_is_wish, [], []⟩
def dd_renamed : He.DefD := ⟨("renamed", none), "renamed", "renamed", defArgs s_renamed, defBody s_renamed, defScope s_renamed, [], []⟩
def dd_law : He.DefD := ⟨("law", none), "law", "law", defArgs s_law, defBody s_law, defScope s_law, [], []⟩
def fn : List He.DefD := [dd__law_cell, dd__law_pick, dd_all_books, dd_how_many_books, dd_is_whole, dd_is_book, dd_look_book, dd_size, dd__law_wishes, dd_turned, dd_is_wish, dd_renamed, dd_law]
def fa : List He.Fa := [.glo "_law_cell", .glo "_law_pick", .glo "all_books", .glo "how_many_books", .glo "is_whole", .glo "is_book", .glo "look_book", .glo "size", .glo "_law_wishes", .glo "turned", .glo "is_wish", .glo "renamed", .glo "law", .free "all", .free "bool", .free "int", .free "isinstance", .free "len", .free "list", .free "range", .free "set", .free "sorted", .free "sum", .free "tuple", .free "zip"]
def ex (K : PySem.W.Frag) : Bool := conB K "GREATEST" c_GREATEST && conB K "WISHES" c_WISHES && exnB K [0, 1, 5]
theorem ft {g : Gd} {h : Heap} {mg : Str → Option Value} (X : g.K.In h) (G : h.Ns mainGlobals mg) (c : He.SaysD fa fn g.K) (e : ex g.K = true) (hh : g.hot = none) (hG : g.G = clsG g.K) : Ft g mg := by
  unfold ex at e
  simp only [Bool.and_eq_true] at e
  exact {
    cold := hh
    b_all := He.free_ok X G (c.fact 13 (f := .free "all") rfl)
    b_bool := He.free_ok X G (c.fact 14 (f := .free "bool") rfl)
    b_int := He.free_ok X G (c.fact 15 (f := .free "int") rfl)
    b_isinstance := He.free_ok X G (c.fact 16 (f := .free "isinstance") rfl)
    b_len := He.free_ok X G (c.fact 17 (f := .free "len") rfl)
    b_list := He.free_ok X G (c.fact 18 (f := .free "list") rfl)
    b_range := He.free_ok X G (c.fact 19 (f := .free "range") rfl)
    b_set := He.free_ok X G (c.fact 20 (f := .free "set") rfl)
    b_sorted := He.free_ok X G (c.fact 21 (f := .free "sorted") rfl)
    b_sum := He.free_ok X G (c.fact 22 (f := .free "sum") rfl)
    b_tuple := He.free_ok X G (c.fact 23 (f := .free "tuple") rfl)
    b_zip := He.free_ok X G (c.fact 24 (f := .free "zip") rfl)
    f__law_cell := He.glo_ok X G (c.fact 0 (f := .glo "_law_cell") rfl)
    d__law_cell := c.def_ 0 (d := dd__law_cell) rfl
    f__law_pick := He.glo_ok X G (c.fact 1 (f := .glo "_law_pick") rfl)
    d__law_pick := c.def_ 1 (d := dd__law_pick) rfl
    f_all_books := He.glo_ok X G (c.fact 2 (f := .glo "all_books") rfl)
    d_all_books := c.def_ 2 (d := dd_all_books) rfl
    f_how_many_books := He.glo_ok X G (c.fact 3 (f := .glo "how_many_books") rfl)
    d_how_many_books := c.def_ 3 (d := dd_how_many_books) rfl
    f_is_whole := He.glo_ok X G (c.fact 4 (f := .glo "is_whole") rfl)
    d_is_whole := c.def_ 4 (d := dd_is_whole) rfl
    f_is_book := He.glo_ok X G (c.fact 5 (f := .glo "is_book") rfl)
    d_is_book := c.def_ 5 (d := dd_is_book) rfl
    f_look_book := He.glo_ok X G (c.fact 6 (f := .glo "look_book") rfl)
    d_look_book := c.def_ 6 (d := dd_look_book) rfl
    f_size := He.glo_ok X G (c.fact 7 (f := .glo "size") rfl)
    d_size := c.def_ 7 (d := dd_size) rfl
    f__law_wishes := He.glo_ok X G (c.fact 8 (f := .glo "_law_wishes") rfl)
    d__law_wishes := c.def_ 8 (d := dd__law_wishes) rfl
    f_turned := He.glo_ok X G (c.fact 9 (f := .glo "turned") rfl)
    d_turned := c.def_ 9 (d := dd_turned) rfl
    f_is_wish := He.glo_ok X G (c.fact 10 (f := .glo "is_wish") rfl)
    d_is_wish := c.def_ 10 (d := dd_is_wish) rfl
    f_renamed := He.glo_ok X G (c.fact 11 (f := .glo "renamed") rfl)
    d_renamed := c.def_ 11 (d := dd_renamed) rfl
    f_law := He.glo_ok X G (c.fact 12 (f := .glo "law") rfl)
    d_law := c.def_ 12 (d := dd_law) rfl
    c_GREATEST := conB_ok X G e.1.1
    c_WISHES := conB_ok X G e.1.2
    exn := exnB_ok X G hG e.2
  }
theorem k__law_cell {P : Program} {w : World} {g : Gd} {mg : Str → Option Value} {base : Heap} (t : Ft g mg) : Okf P w g mg base 1 "_law_cell" ["script", "k"] 2 (_law_cell g.ns) := ok__law_cell t (k := 0)
theorem k__law_pick {P : Program} {w : World} {g : Gd} {mg : Str → Option Value} {base : Heap} (t : Ft g mg) : Okf P w g mg base 2 "_law_pick" ["script", "k", "many"] 3 (_law_pick g.ns) := ok__law_pick t (k := 1) ((k__law_cell t).mono (by decide))
theorem k_all_books {P : Program} {w : World} {g : Gd} {mg : Str → Option Value} {base : Heap} (t : Ft g mg) : Okf P w g mg base 1 "all_books" ["many"] 1 all_books := ok_all_books t (k := 0)
theorem k_how_many_books {P : Program} {w : World} {g : Gd} {mg : Str → Option Value} {base : Heap} (t : Ft g mg) : Okf P w g mg base 1 "how_many_books" ["many"] 1 how_many_books := ok_how_many_books t (k := 0)
theorem k_is_whole {P : Program} {w : World} {g : Gd} {mg : Str → Option Value} {base : Heap} (t : Ft g mg) : Okf P w g mg base 1 "is_whole" ["thing", "low", "high"] 3 is_whole := ok_is_whole t (k := 0)
theorem k_is_book {P : Program} {w : World} {g : Gd} {mg : Str → Option Value} {base : Heap} (t : Ft g mg) : Okf P w g mg base 2 "is_book" ["thing"] 1 is_book := ok_is_book t (k := 1) ((k_is_whole t).mono (by decide))
theorem k_look_book {P : Program} {w : World} {g : Gd} {mg : Str → Option Value} {base : Heap} (t : Ft g mg) : Okf P w g mg base 3 "look_book" ["book"] 1 look_book := ok_look_book t (k := 2) ((k_is_book t).mono (by decide))
theorem k_size {P : Program} {w : World} {g : Gd} {mg : Str → Option Value} {base : Heap} (t : Ft g mg) : Okf P w g mg base 4 "size" ["book"] 1 size := ok_size t (k := 3) ((k_look_book t).mono (by decide))
theorem k__law_wishes {P : Program} {w : World} {g : Gd} {mg : Str → Option Value} {base : Heap} (t : Ft g mg) : Okf P w g mg base 1 "_law_wishes" [] 0 _law_wishes := ok__law_wishes t (k := 0)
theorem k_turned {P : Program} {w : World} {g : Gd} {mg : Str → Option Value} {base : Heap} (t : Ft g mg) : Okf P w g mg base 4 "turned" ["book"] 1 turned := ok_turned t (k := 3) ((k_look_book t).mono (by decide))
theorem k_is_wish {P : Program} {w : World} {g : Gd} {mg : Str → Option Value} {base : Heap} (t : Ft g mg) : Okf P w g mg base 2 "is_wish" ["thing"] 1 is_wish := ok_is_wish t (k := 1) ((k_is_whole t).mono (by decide))
theorem k_renamed {P : Program} {w : World} {g : Gd} {mg : Str → Option Value} {base : Heap} (t : Ft g mg) : Okf P w g mg base 4 "renamed" ["book", "order"] 2 renamed := ok_renamed t (k := 3) ((k_look_book t).mono (by decide)) ((k_is_wish t).mono (by decide))
theorem k_law {P : Program} {w : World} {g : Gd} {mg : Str → Option Value} {base : Heap} (t : Ft g mg) : Okf P w g mg base 5 "law" ["script"] 1 (law g.ns) := ok_law t (k := 4) ((k__law_pick t).mono (by decide)) ((k_all_books t).mono (by decide)) ((k_how_many_books t).mono (by decide)) ((k_size t).mono (by decide)) ((k_is_book t).mono (by decide)) ((k__law_wishes t).mono (by decide)) ((k_turned t).mono (by decide)) ((k_renamed t).mono (by decide))
def names0 : List PySem.Str := ["WishError", "NoBook", "NoRanking", "WISHES", "GREATEST", "is_whole", "is_book", "look_book", "is_wish", "size", "turned", "renamed", "all_books", "how_many_books", "_law_cell", "_law_pick", "_law_wishes", "_law_book", "_law_more"]
def names : List PySem.Str := names0
abbrev RR : PySem.W.OpenRow := PySem.W.OpenLaw.row PySem.Challenge.rw_wishrules_k31_whole_books_counted
abbrev hk : PySem.W.Hook := He.hookX 4 fa fn [] [] ex
def ob (s : PySem.W.SharedT) : He.AlX := He.obsX 4 fa fn [] [] ex (HandSHeadRun.getT s)
theorem ob_eq (s : PySem.W.SharedT) : ob s = hk.obs s.abs := He.obsX_eq (HandSHeadRun.getT_eq s)
theorem run (w : World) : HandSHeadRun.RunEq RR (PySem.W.view RR.prog [23]) hk ob 4440 names w := by
  intro os
  kernel_rfl
theorem facts {w : World} {K : PySem.W.Frag} {h : Heap} {mg : Str → Option Value} {f : Addr} (X : K.In h) (G : h.Ns mainGlobals mg) (hfa : mg ("law" : Str) = some (.ref f)) (c : He.SaysX fa fn [] [] ex w h K) :
    ∃ fd : FuncData, (∀ (s : Shared) (v : Value), BindsTo s fd ⟨[v], []⟩ [("script", v)]) ∧ ∀ base : Heap, K.In base → base.Ns mainGlobals mg → FnOk RR.prog w K mg base (L2.CX RR.prog w) 5 f fd ["script"] (spLaw K (clsG K) 63 law) := by
  obtain ⟨fd, F⟩ := c.t.d.def_ 12 (d := dd_law) rfl
  have e := hfa.symm.trans (He.glo_ok X G (c.t.d.fact 12 (f := .glo "law") rfl))
  cases e
  have b := FunD.bindsA (ps := ["script"]) F fun _ _ _ _ _ _ us hl => match us, hl with | [_], _ => rfl
  exact ⟨fd, fun s v => b s [v] rfl, fun base XB GB => law_ok (fdO_of F) fun sa ns => k_law (ft (g := gd K (clsG K) sa ns) XB GB c.t.d c.more rfl rfl)⟩
theorem holds (ok : ∀ s : List Int, s.length ≤ 63 → ∃ h, law s [.scr] [] = .ok (.bl true) h) : PySem.Challenge.rw_wishrules_k31_whole_books_counted.Holds := by
  w_on; o_law
  refine HandSHeadRun.head_any (r := RR) (q := PySem.W.view RR.prog [23]) (H := hk) (ob := ob) (M := 4440) (loose := names) (d := HandSHeadRun.topDef RR.prog 23) (kwd := []) ob_eq
    (by kernel_rfl) (fun s => by kernel_rfl) run (by kernel_rfl) (by kernel_rfl) (by kernel_rfl) (by rfl) (by first | assumption | decide +kernel) (by decide +kernel) ⟨rfl, rfl, rfl, rfl, rfl, by decide +kernel⟩ ?hw ?hc
  case hw => w_witness2
  case hc =>
    refine walk_w (l := PySem.Challenge.rw_wishrules_k31_whole_books_counted) (n := 63) (k := 5) (x := "script") (CX := fun w => L2.CX RR.prog w) rfl (by decide) (by kernel_rfl) ⟨rfl, by decide, by decide⟩ ?F (fun w H s e s' z => cx_false RR.prog w H s e s' z)
    intro w mg fa h Y G hmg0
    obtain ⟨K, KX, c⟩ := Y
    have hmg : mg ("law" : PySem.Str) = some (.ref fa) := by
      have e : (HandSHeadRun.topDef RR.prog 23).name = ("law" : PySem.Str) := by kernel_rfl
      rw [← e]
      exact hmg0
    obtain ⟨fd, hb, hF⟩ := facts (w := w) KX G hmg c
    exact ⟨K, fd, spLaw K (clsG K) 63 law, KX, hb, fun H a ns hl hO hS => law_sp ok H a ns hl hO hS, hF⟩
end K31
set_option Elab.async false
set_option linter.all false
set_option maxRecDepth 100000
set_option maxHeartbeats 4000000
set_option autoImplicit false
namespace Wr
open PySem PySem.Spec PyProof.Rows L2
@[simp] theorem ev_g0 {α : Type} (x : α) (l : List α) : (x :: l)[0]? = some x := rfl
@[simp] theorem dec_t {p : Prop} [Decidable p] (h : p) : decide p = true := decide_eq_true h
@[simp] theorem dec_f {p : Prop} [Decidable p] (h : ¬ p) : decide p = false := decide_eq_false h
section
variable (s : Sg) (h : Hs)
@[simp] theorem ev_min (i j : Int) : kMin [.int i, .int j] h = some (.int (if j < i then j else i), h) := rfl
@[simp] theorem ev_tupT (ys : List Va) : kTuple [.tup ys] h = some (.tup ys, h) := rfl
@[simp] theorem ev_tupL (r : Nat) : kTuple [.ref r] h = (lstArg [.ref r] h).map fun ys => (.tup ys, h) := rfl
@[simp] theorem ev_listL (r : Nat) : kList [.ref r] h = (lstArg [.ref r] h).map fun ys => (.ref h.length, h ++ [.lst ys]) := rfl
@[simp] theorem ev_listT (ys : List Va) : kList [.tup ys] h = some (.ref h.length, h ++ [.lst ys]) := rfl
@[simp] theorem ev_asgT (t : Tg) (f : De) : dAsgT t f s h = (f s h).bindS s fun v h1 => match setT t v s h1 with
  | some s1 => .nx s1 h1
  | none => .no := rfl
@[simp] theorem ev_compR (lo : Int) (n : Nat) (t : Tg) (test : Dt) (el : De) : compL (.rng lo n) t test el s (itLen (.rng lo n) h + 1) 0 h = compS t test el s (rngV lo n) h := by
  refine compS_gen (.rng lo n) (rngV lo n) t test el s (fun i h' hi => rngV_nxt lo n i h') (n + 1) 0 h ?_ (by omega)
  simp [rngV]
@[simp] theorem rng3 : rngV 0 3 = [.int 0, .int 1, .int 2] := rfl
@[simp] theorem rng6e : rngV 0 6 = [.int 0, .int 1, .int 2, .int 3, .int 4, .int 5] := rfl
@[simp] theorem ev_rng1 (f : Da) : dRng1 f s h = (f s h).bind fun vs h1 => match vs with
  | [.int j] => if rgOk 0 j then .ok (.rng 0 j.toNat) h1 else .no
  | _ => .no := rfl
@[simp] theorem rg3 : rgOk 0 3 = true := rfl
@[simp] theorem rg6 : rgOk 0 6 = true := rfl
@[simp] theorem ite_t {α : Type} {c : Prop} [Decidable c] (hc : c) (x y : α) : (if c then x else y) = x := if_pos hc
@[simp] theorem ite_f {α : Type} {c : Prop} [Decidable c] (hc : ¬ c) (x y : α) : (if c then x else y) = y := if_neg hc
@[simp] theorem ev_ixT (xs : List Va) (i : Int) : kIxU (.tup xs) (.int i) h = match (L2.atI xs i).map fun v => (v, h) with
  | some r => some r
  | none => kDg (.tup xs) (.int i) h := rfl
end
section
variable (h : Hs)
@[simp] theorem ev_ixR (r : Nat) (i : Int) : kIxU (.ref r) (.int i) h = match (match h[r]? with
  | some (.lst xs) => (L2.atI xs i).map fun v => (v, h)
  | _ => none) with
  | some q => some q
  | none => kDg (.ref r) (.int i) h := rfl
@[simp] theorem ev_eqG (x y : Va) : kEq x y h = match toD h 9 x with
  | some d => match toD h 9 y with
    | some e => some (.bl (PyData.eqv d e), h)
    | none => none
  | none => none := rfl
@[simp] theorem ev_neG (x y : Va) : kNe x y h = match toD h 9 x with
  | some d => match toD h 9 y with
    | some e => some (.bl (!PyData.eqv d e), h)
    | none => none
  | none => none := rfl
@[simp] theorem toD_non (n : Nat) : toD h n .non = some .none := by cases n <;> rfl
@[simp] theorem toD_bl (n : Nat) (b : Bool) : toD h n (.bl b) = some (.bool b) := by cases n <;> rfl
@[simp] theorem toD_int (n : Nat) (i : Int) : toD h n (.int i) = some (.int i) := by cases n <;> rfl
@[simp] theorem toD_tup (n : Nat) (xs : List Va) : toD h (n + 1) (.tup xs) = (mapO (toD h n) xs).map .tuple := rfl
@[simp] theorem toD_ref (n i : Nat) : toD h (n + 1) (.ref i) = match h[i]? with
    | some (.lst xs) => (mapO (toD h n) xs).map .list
    | _ => none := rfl
@[simp] theorem mapO_nil {α β : Type} (f : α → Option β) : mapO f [] = some [] := rfl
@[simp] theorem mapO_cons {α β : Type} (f : α → Option β) (x : α) (l : List α) : mapO f (x :: l) = match f x with
  | some y => (mapO f l).map (y :: ·)
  | none => none := by
  cases e : f x with
  | none => simp [mapO, e]
  | some y => cases e2 : mapO f l <;> simp [mapO, e, e2]
@[simp] theorem eqv_int (i j : Int) : PyData.eqv (.int i) (.int j) = decide (i = j) := by simp [PyData.eqv, bd_int]
@[simp] theorem eqv_tup (xs ys : List PyData) : PyData.eqv (.tuple xs) (.tuple ys) = PyData.eqvAll xs ys := by simp [PyData.eqv]
@[simp] theorem eqv_lst (xs ys : List PyData) : PyData.eqv (.list xs) (.list ys) = PyData.eqvAll xs ys := by simp [PyData.eqv]
@[simp] theorem eqv_all0 : PyData.eqvAll [] [] = true := by simp [PyData.eqvAll]
@[simp] theorem eqv_all1 (x y : PyData) (xs ys : List PyData) : PyData.eqvAll (x :: xs) (y :: ys) = (PyData.eqv x y && PyData.eqvAll xs ys) := by simp [PyData.eqvAll]
@[simp] theorem ev_atI {α : Type} (xs : List α) (i : Int) : L2.atI xs i = (L2.ixN xs.length i).bind fun j => xs[j]? := rfl
@[simp] theorem ev_ixN (n : Nat) (i : Int) : L2.ixN n i = if 0 ≤ i then (if i < n then some i.toNat else none) else if -(n : Int) ≤ i then some (i + n).toNat else none := rfl
end
end Wr
namespace Pg
open PySem PySem.Spec PyProof.Rows L2 Wr
section
variable (a b c d e f : Int)
abbrev B99 (a b c d e f : Int) : Prop := (0 ≤ a ∧ a ≤ 99) ∧ (0 ≤ b ∧ b ≤ 99) ∧ (0 ≤ c ∧ c ≤ 99) ∧ (0 ≤ d ∧ d ≤ 99) ∧ (0 ≤ e ∧ e ≤ 99) ∧ (0 ≤ f ∧ f ≤ 99)
theorem B99.bok {a b c d e f : Int} (h : B99 a b c d e f) : Bok a b c d e f := by
  obtain ⟨h0, h1, h2, h3, h4, h5⟩ := h
  intro x hx
  simp only [List.mem_cons, List.not_mem_nil, or_false] at hx
  rcases hx with rfl | rfl | rfl | rfl | rfl | rfl <;> assumption
def renB : Nat → Int → Int → Int → Int → Int → Int → Va
  | 0, a, b, c, d, e, f => Bk a b c d e f
  | 1, a, b, c, d, e, f => Bk b a e f c d
  | 2, a, b, c, d, e, f => Bk c d a b f e
  | 3, a, b, c, d, e, f => Bk e f b a d c
  | 4, a, b, c, d, e, f => Bk d c f e a b
  | _, a, b, c, d, e, f => Bk f e d c b a
theorem renamed_ok (hb : Bok a b c d e f) (j : Nat) (hj : j < 6) (h : Hs) : callD renamed [Bk a b c d e f, wv j] h = .ok (renB j a b c d e f) h := by
  have w := look_call a b c d e f hb []
  have w2 := is_wish_ok j hj []
  have e1 : dExpr (dCall look_book 1 (aCons (dVar 0) aNil)) [some (Bk a b c d e f), some (wv j), none, none, none, none] [] = .nx [some (Bk a b c d e f), some (wv j), none, none, none, none] [] := by simp [w]
  have e2 : dIfS (dNot (dTest (dCall is_wish 1 (aCons (dVar 1) aNil)))) dNo dNx [some (Bk a b c d e f), some (wv j), none, none, none, none] [] = .nx [some (Bk a b c d e f), some (wv j), none, none, none, none] [] := by simp [w2]
  rcases lt6 hj with rfl | rfl | rfl | rfl | rfl | rfl
  · exact callD_flat rfl rfl rfl (stepC _ _ e1 (stepC _ _ e2 (by kernel_rfl)))
  · exact callD_flat rfl rfl rfl (stepC _ _ e1 (stepC _ _ e2 (by kernel_rfl)))
  · exact callD_flat rfl rfl rfl (stepC _ _ e1 (stepC _ _ e2 (by kernel_rfl)))
  · exact callD_flat rfl rfl rfl (stepC _ _ e1 (stepC _ _ e2 (by kernel_rfl)))
  · exact callD_flat rfl rfl rfl (stepC _ _ e1 (stepC _ _ e2 (by kernel_rfl)))
  · exact callD_flat rfl rfl rfl (stepC _ _ e1 (stepC _ _ e2 (by kernel_rfl)))
theorem pickN (ns : List Int) (k m : Int) (hk : 0 ≤ k) (hm : 0 < m) : ∃ r : Nat, (r : Int) < m ∧ ∀ h, callD (_law_pick ns) [.scr, .int k, .int m] h = .ok (.int r) h := by
  obtain ⟨c, hc⟩ := cell_ok ns k hk
  have w : ∀ h', callD (_law_cell ns) [.scr, .int k] h' = .ok (.int c) h' := fun h' => callD_flat rfl rfl rfl hc
  generalize hd : (c + 6151 * (k + 1)) * 40692 % 2147483399 = d
  have h1 : 0 ≤ d := by rw [← hd]; exact Int.emod_nonneg _ (by decide)
  have h2 : d < 2147483399 := by rw [← hd]; exact Int.emod_lt_of_pos _ (by decide)
  have z1 : -18446744073709551616 < d := by omega
  have z2 : d < 18446744073709551616 := by omega
  have q1 : 0 ≤ (d * d + d / 31) % 2147483629 % m := Int.emod_nonneg _ (by omega)
  have q2 : (d * d + d / 31) % 2147483629 % m < m := Int.emod_lt_of_pos _ hm
  obtain ⟨r, hr⟩ := Int.eq_ofNat_of_zero_le q1
  refine ⟨r, by omega, fun h => ?_⟩
  rw [← hr]
  refine callD_flat rfl rfl rfl ?_
  simp [_law_pick, D__law_pick, fnD, w, kMod, hd, z1, z2, kFdivW, hm, toRs]
  rfl
end
end Pg
set_option Elab.async false
set_option linter.all false
set_option maxRecDepth 100000
set_option maxHeartbeats 0
set_option autoImplicit false
namespace K31
open PySem PySem.Spec PyProof.Rows L2 Wr Pg
abbrev nn : Option Va := none
/-- all books of so many wishes, rising -/
def bks (m : Nat) : List (List Int) :=
  ((List.range 5).foldl (fun (made : List (List Int)) _ => made.flatMap fun s => (List.range (m + 1 - (s.foldl (· + ·) 0).toNat)).map fun (k : Nat) => s ++ [(k : Int)]) [[]]).map fun s => s ++ [(m : Int) - s.foldl (· + ·) 0]
def bkV (b : List Int) : Va := .tup (b.map .int)
def EV (m : Nat) : List Va := (bks m).map bkV
abbrev S0 (m : Nat) : Sg := [some .scr, some (.int m), nn, nn, nn, nn, nn, nn, nn, nn, nn, nn, nn]
abbrev S1 (m : Nat) (o b : Option Va) : Sg := [some .scr, some (.int m), some (.ref 0), nn, o, b, nn, nn, nn, nn, nn, nn, nn]
abbrev SZ : Sg := [some .scr, nn, nn, nn, nn, nn, nn, nn, nn, nn, nn, nn, nn]
def i28 (m : Nat) : Bool := nxT 0 [0, 1, 2] (dSet 2 (dCall all_books 1 (aCons (dVar 1) aNil)) (S0 m) []) (S1 m nn nn) [.lst (EV m)]
def i26 (m : Nat) : Bool := nxT 0 [0, 1, 2] (P_law_26 how_many_books 0 (S1 m nn nn) [.lst (EV m)]) (S1 m nn nn) [.lst (EV m)]
def i24 (m : Nat) : Bool := nxT 0 [0, 1, 2] (P_law_24 size is_book 0 (S1 m nn nn) [.lst (EV m)]) (S1 m nn nn) [.lst (EV m)]
def i16 (m : Nat) : Bool := nxT 0 [0] (P_law_16 all_books 0 (S1 m nn nn) [.lst (EV m)]) SZ []
end K31
set_option Elab.async false
set_option linter.all false
set_option maxRecDepth 100000
set_option maxHeartbeats 0
set_option autoImplicit false
namespace K31
open PySem PySem.Spec PyProof.Rows L2 Wr Pg
theorem k1 : (i28 0 && i28 1 && i28 2 && i28 3) = true := by decide +kernel
end K31
set_option Elab.async false
set_option linter.all false
set_option maxRecDepth 100000
set_option maxHeartbeats 0
set_option autoImplicit false
namespace K31
open PySem PySem.Spec PyProof.Rows L2 Wr Pg
theorem k2 : (i26 0 && i26 1 && i26 2) = true := by decide +kernel
end K31
set_option Elab.async false
set_option linter.all false
set_option maxRecDepth 100000
set_option maxHeartbeats 0
set_option autoImplicit false
namespace K31
open PySem PySem.Spec PyProof.Rows L2 Wr Pg
theorem k3 : (i26 3) = true := by decide +kernel
end K31
set_option Elab.async false
set_option linter.all false
set_option maxRecDepth 100000
set_option maxHeartbeats 0
set_option autoImplicit false
namespace K31
open PySem PySem.Spec PyProof.Rows L2 Wr Pg
theorem k4 : (i24 0 && i24 1 && i24 2 && i24 3) = true := by decide +kernel
end K31
set_option Elab.async false
set_option linter.all false
set_option maxRecDepth 100000
set_option maxHeartbeats 0
set_option autoImplicit false
namespace K31
open PySem PySem.Spec PyProof.Rows L2 Wr Pg
theorem k5 : (i16 0 && i16 1 && i16 2) = true := by decide +kernel
end K31
set_option Elab.async false
set_option linter.all false
set_option maxRecDepth 100000
set_option maxHeartbeats 0
set_option autoImplicit false
namespace K31
open PySem PySem.Spec PyProof.Rows L2 Wr Pg
theorem k6 : (i28 4) = true := by decide +kernel
end K31
set_option Elab.async false
set_option linter.all false
set_option maxRecDepth 100000
set_option maxHeartbeats 0
set_option autoImplicit false
namespace K31
open PySem PySem.Spec PyProof.Rows L2 Wr Pg
theorem k7 : (i26 4) = true := by decide +kernel
end K31
set_option Elab.async false
set_option linter.all false
set_option maxRecDepth 100000
set_option maxHeartbeats 0
set_option autoImplicit false
namespace K31
open PySem PySem.Spec PyProof.Rows L2 Wr Pg
theorem k8 : (i24 4) = true := by decide +kernel
end K31
set_option Elab.async false
set_option linter.all false
set_option maxRecDepth 100000
set_option maxHeartbeats 0
set_option autoImplicit false
namespace K31
open PySem PySem.Spec PyProof.Rows L2 Wr Pg
theorem k9 : (i16 3) = true := by decide +kernel
end K31
set_option Elab.async false
set_option linter.all false
set_option maxRecDepth 100000
set_option maxHeartbeats 0
set_option autoImplicit false
namespace K31
open PySem PySem.Spec PyProof.Rows L2 Wr Pg
def isT (r : RS) : Bool := match r with
  | .rt (.bl true) _ => true
  | _ => false
theorem isT_is {r : RS} (c : isT r = true) : ∃ h, r = .rt (.bl true) h := by
  unfold isT at c
  split at c
  · exact ⟨_, rfl⟩
  · cases c
abbrev SG (g : Int) : Sg := [nn, nn, nn, nn, nn, nn, nn, nn, nn, some (.int g), nn, nn, nn]
def r13 (g : Nat) : RS := P_law_13 all_books how_many_books 0 (SG g) []
theorem g13 : ((List.range 40).all fun g => isT (r13 g)) = true := by decide +kernel
theorem g_is (g : Nat) (hg : g < 40) : ∃ h', r13 g = .rt (.bl true) h' := isT_is (List.all_eq_true.mp g13 g (List.mem_range.mpr hg))
end K31
set_option Elab.async false
set_option linter.all false
set_option maxRecDepth 100000
set_option maxHeartbeats 0
set_option autoImplicit false
namespace K31
open PySem PySem.Spec PyProof.Rows L2 Wr Pg
def renI : Nat → Int → Int → Int → Int → Int → Int → List Int
  | 0, a, b, c, d, e, f => [a, b, c, d, e, f]
  | 1, a, b, c, d, e, f => [b, a, e, f, c, d]
  | 2, a, b, c, d, e, f => [c, d, a, b, f, e]
  | 3, a, b, c, d, e, f => [e, f, b, a, d, c]
  | 4, a, b, c, d, e, f => [d, c, f, e, a, b]
  | _, a, b, c, d, e, f => [f, e, d, c, b, a]
theorem renI_is (j : Nat) (a b c d e f : Int) : renB j a b c d e f = bkV (renI j a b c d e f) := match j with
  | 0 => rfl
  | 1 => rfl
  | 2 => rfl
  | 3 => rfl
  | 4 => rfl
  | _ + 5 => rfl
/-- a book whose renamed and turned ones are among these -/
def good (L : List (List Int)) : List Int → Bool
  | [a, b, c, d, e, f] => decide (B99 a b c d e f) && L.contains [f, d, e, b, c, a] && (List.range 6).all fun j => L.contains (renI j a b c d e f)
  | _ => false
theorem s4 : ((List.range 5).all fun m => (bks m).all (good (bks m))) = true := by decide +kernel
end K31
set_option Elab.async false
set_option linter.all false
set_option maxRecDepth 100000
set_option maxHeartbeats 4000000
set_option autoImplicit false
namespace Wr
open PySem PySem.Spec PyProof.Rows L2
def tdS (h : Hs) (n : Nat) (xs : List Va) : Option (List PyData) := mapO (toD h n) xs
def tdLL (o : Option (List PyData)) : Option PyData := o.map .list
def tdTT (o : Option (List PyData)) : Option PyData := o.map .tuple
def tdC (o : Option PyData) (p : Option (List PyData)) : Option (List PyData) := match o with
  | some y => match p with
    | some ys => some (y :: ys)
    | none => none
  | none => none
def hasK (i : Int) : List (Key × Va) → Bool
  | [] => false
  | (.inl j, _) :: l => decide (j = i) || hasK i l
  | _ :: l => hasK i l
def repK (i : Int) (v : Va) : List (Key × Va) → List (Key × Va)
  | [] => []
  | (.inl j, w) :: l => (.inl j, bif decide (j = i) then v else w) :: repK i v l
  | x :: l => x :: repK i v l
def pk2 (kvs : List (Key × Va)) (i : Int) (v : Va) : List (Key × Va) := bif hasK i kvs then repK i v kvs else kvs ++ [(.inl i, v)]
def lft (o : Option (Va × Hs)) : Rs Va := liftO o
def op2 (k : K2) (x : Va) (r : Rs Va) : Rs Va := r.bind fun y h2 => liftO (k x y h2)
def op1 (k : K2) (r : Rs Va) (fb : De) (s : Sg) : Rs Va := r.bind fun x h1 => op2 k x (fb s h1)
def tst (r : Rs Va) : Rs Bool := r.bind isB
def ac2 (x : Va) (r : Rs (List Va)) : Rs (List Va) := r.bind fun xs h2 => .ok (x :: xs) h2
def ac1 (r : Rs Va) (g : Da) (s : Sg) : Rs (List Va) := r.bind fun x h1 => ac2 x (g s h1)
def tu1 (r : Rs (List Va)) : Rs Va := r.bind fun xs h1 => if okN xs.length then .ok (.tup xs) h1 else .no
def ls1 (r : Rs (List Va)) : Rs Va := r.bind mkL
def nt1 (r : Rs Bool) : Rs Bool := r.bind fun c h1 => .ok (!c) h1
def and1 (r : Rs Bool) (k : Dt) (s : Sg) : Rs Bool := r.bind fun c h1 => match c with
  | true => k s h1
  | false => .ok false h1
def andv1 (r : Rs Va) (k : De) (s : Sg) : Rs Va := r.bind fun c h1 => match c with
  | .bl true => k s h1
  | .bl false => .ok (.bl false) h1
  | _ => .no
def or1 (r : Rs Bool) (k : Dt) (s : Sg) : Rs Bool := r.bind fun c h1 => match c with
  | true => .ok true h1
  | false => k s h1
def orv1 (r : Rs Va) (k : De) (s : Sg) : Rs Va := r.bind fun c h1 => match c with
  | .bl true => .ok (.bl true) h1
  | .bl false => k s h1
  | _ => .no
def nv1 (r : Rs Va) : Rs Va := r.bind fun c h1 => match c with
  | .bl c => .ok (.bl (!c)) h1
  | _ => .no
def ife1 (r : Rs Bool) (f k : De) (s : Sg) : Rs Va := r.bind fun c h1 => match c with
  | true => f s h1
  | false => k s h1
def ifs1 (r : Rs Bool) (f k : Ds) (s : Sg) : RS := r.bindS s fun c h1 => match c with
  | true => f s h1
  | false => k s h1
def ex1 (r : Rs Va) (s : Sg) : RS := r.bindS s fun _ h1 => .nx s h1
def rt1 (r : Rs Va) (s : Sg) : RS := r.bindS s fun v h1 => .rt v h1
def st1 (i : Nat) (r : Rs Va) (s : Sg) : RS := r.bindS s fun v h1 => .nx (s.set i (some v)) h1
def ca1 (F : Fn) (np : Nat) (r : Rs (List Va)) : Rs Va := r.bind fun xs h1 => if xs.length == np then callD F xs h1 else .no
def b1 (k : K1) (r : Rs (List Va)) : Rs Va := r.bind fun xs h1 => liftO (k xs h1)
def rn1 (r : Rs (List Va)) : Rs It' := r.bind fun vs h1 => match vs with
  | [.int j] => if rgOk 0 j then .ok (.rng 0 j.toNat) h1 else .no
  | _ => .no
def pu4 (o : Option Hs) (s : Sg) : RS := match o with
  | some h4 => .nx s h4
  | none => .no
def pu3 (k : Va → Va → Va → Hs → Option Hs) (v o : Va) (r : Rs Va) (s : Sg) : RS := r.bindS s fun i h3 => pu4 (k o i v h3) s
def pu2 (k : Va → Va → Va → Hs → Option Hs) (v : Va) (fi : De) (r : Rs Va) (s : Sg) : RS := r.bindS s fun o h2 => pu3 k v o (fi s h2) s
def pu1 (k : Va → Va → Va → Hs → Option Hs) (fo fi : De) (r : Rs Va) (s : Sg) : RS := r.bindS s fun v h1 => pu2 k v fi (fo s h1) s
def conT (n0 : Nat) (live : List Nat) (it : It') (t : Tg) (body : Ds) (f i : Nat) (r : RS) : RS := match r with
  | .nx s2 h2 => forC n0 live it t body f (i + 1) s2 h2
  | .ct s2 h2 => forC n0 live it t body f (i + 1) s2 h2
  | .bk s2 h2 => .nx s2 h2
  | .rt v h2 => .rt v h2
  | .ex c s2 h2 => .ex c s2 h2
  | .no => .no
def fC (o : Option Sg) (n0 : Nat) (live : List Nat) (it : It') (t : Tg) (body : Ds) (f i : Nat) (h : Hs) : RS := match o with
  | some s1 => conT n0 live it t body f i (body s1 h)
  | none => .no
def fB (o : Option (Option Va)) (n0 : Nat) (live : List Nat) (it : It') (t : Tg) (body : Ds) (f i : Nat) (s : Sg) (h : Hs) : RS := match o with
  | some none => .nx s h
  | some (some v) => fC (setT t v s h) n0 live it t body f i h
  | none => .no
def fA (o : Option (Sg × Hs)) (n0 : Nat) (live : List Nat) (it : It') (t : Tg) (body : Ds) (f i : Nat) : RS := match o with
  | some (s, h) => fB (nxt it i h) n0 live it t body f i s h
  | none => .no
def rv1 (r : Rs Va) : Rs Va := r.bind kRev
def ixo (o : Option Va) (h : Hs) (z : Option (Va × Hs)) : Option (Va × Hs) := match o with
  | some v => some (v, h)
  | none => z
def ixR (o : Option Ob) (i : Int) (h : Hs) : Option (Va × Hs) := match o with
  | some (.lst xs) => ixo (L2.atI xs i) h none
  | some (.dK kvs) => ixo (gK kvs (.inl i)) h none
  | some (.dF kvs) => ixo (gK kvs (.inl i)) h none
  | _ => none
def eq2 (o p : Option PyData) (h : Hs) (b : Bool) : Option (Va × Hs) := match o with
  | some d => match p with
    | some e => some (.bl (bif b then PyData.eqv d e else !PyData.eqv d e), h)
    | none => none
  | none => none
def tdL (o : Option Ob) (h : Hs) (n : Nat) : Option PyData := match o with
  | some (.lst xs) => (mapO (toD h n) xs).map .list
  | _ => none
def lenR (o : Option Ob) (h : Hs) : Option (Va × Hs) := match o with
  | some (.lst ys) => some (.int ys.length, h)
  | _ => none
theorem u_v0 (v : Va) (t : Sg) (h : Hs) : dVar 0 (some v :: t) h = .ok v h := rfl
theorem u_vS (n : Nat) (x : Option Va) (t : Sg) (h : Hs) : dVar (n + 1) (x :: t) h = dVar n t h := rfl
theorem u_c (v : Va) (s : Sg) (h : Hs)  : dC v s h = .ok v h := rfl
theorem u_lft (v : Va) (h : Hs) : lft (some (v, h)) = .ok v h := rfl
theorem u_op (k : K2) (fa fb : De) (s : Sg) (h : Hs)  : dOp k fa fb s h = op1 k (fa s h) fb s := rfl
theorem u_op1 (k : K2) (x : Va) (fb : De) (s : Sg) (h : Hs)  : op1 k (.ok x h) fb s = op2 k x (fb s h) := rfl
theorem u_op2 (k : K2) (x y : Va) (h : Hs) : op2 k x (.ok y h) = lft (k x y h) := rfl
theorem u_test (f : De) (s : Sg) (h : Hs)  : dTest f s h = tst (f s h) := rfl
theorem u_tst (b : Bool) (h : Hs) : tst (.ok (.bl b) h) = .ok b h := rfl
theorem u_anil (s : Sg) (h : Hs)  : aNil s h = .ok [] h := rfl
theorem u_acons (f : De) (r : Da) (s : Sg) (h : Hs)  : aCons f r s h = ac1 (f s h) r s := rfl
theorem u_ac1 (x : Va) (g : Da) (s : Sg) (h : Hs)  : ac1 (.ok x h) g s = ac2 x (g s h) := rfl
theorem u_ac2 (x : Va) (xs : List Va) (h : Hs) : ac2 x (.ok xs h) = .ok (x :: xs) h := rfl
theorem u_tup (f : Da) (s : Sg) (h : Hs)  : dTup f s h = tu1 (f s h) := rfl
theorem u_tu1 (xs : List Va) (h : Hs) (hl : xs.length ≤ 16777216) : tu1 (.ok xs h) = .ok (.tup xs) h := by unfold tu1; simp only [ev_bind_ok]; rw [if_pos]; simpa using hl
theorem u_lst (f : Da) (s : Sg) (h : Hs)  : dLst f s h = ls1 (f s h) := rfl
theorem u_ls1 (xs : List Va) (h : Hs) (hl : xs.length ≤ 16777216) : ls1 (.ok xs h) = .ok (.ref h.length) (h ++ [.lst xs]) := by unfold ls1; simp only [ev_bind_ok, mkL]; rw [if_pos]; simpa using hl
theorem u_not (f : Dt) (s : Sg) (h : Hs)  : dNot f s h = nt1 (f s h) := rfl
theorem u_nt1 (b : Bool) (h : Hs) : nt1 (.ok b h) = .ok (!b) h := rfl
theorem u_and (f k : Dt) (s : Sg) (h : Hs)  : dAnd f k s h = and1 (f s h) k s := rfl
theorem u_and1t (k : Dt) (s : Sg) (h : Hs)  : and1 (.ok true h) k s = k s h := rfl
theorem u_and1f (k : Dt) (s : Sg) (h : Hs)  : and1 (.ok false h) k s = .ok false h := rfl
theorem u_andv (f k : De) (s : Sg) (h : Hs)  : dAndV f k s h = andv1 (f s h) k s := rfl
theorem u_andv1t (k : De) (s : Sg) (h : Hs)  : andv1 (.ok (.bl true) h) k s = k s h := rfl
theorem u_andv1f (k : De) (s : Sg) (h : Hs)  : andv1 (.ok (.bl false) h) k s = .ok (.bl false) h := rfl
theorem u_or (f k : Dt) (s : Sg) (h : Hs)  : dOr f k s h = or1 (f s h) k s := rfl
theorem u_or1t (k : Dt) (s : Sg) (h : Hs)  : or1 (.ok true h) k s = .ok true h := rfl
theorem u_or1f (k : Dt) (s : Sg) (h : Hs)  : or1 (.ok false h) k s = k s h := rfl
theorem u_orv (f k : De) (s : Sg) (h : Hs)  : dOrV f k s h = orv1 (f s h) k s := rfl
theorem u_orv1t (k : De) (s : Sg) (h : Hs)  : orv1 (.ok (.bl true) h) k s = .ok (.bl true) h := rfl
theorem u_orv1f (k : De) (s : Sg) (h : Hs)  : orv1 (.ok (.bl false) h) k s = k s h := rfl
theorem u_notv (f : De) (s : Sg) (h : Hs)  : dNotV f s h = nv1 (f s h) := rfl
theorem u_nv1 (b : Bool) (h : Hs) : nv1 (.ok (.bl b) h) = .ok (.bl (!b)) h := rfl
theorem u_ife (c : Dt) (f k : De) (s : Sg) (h : Hs)  : dIf c f k s h = ife1 (c s h) f k s := rfl
theorem u_ife1t (f k : De) (s : Sg) (h : Hs)  : ife1 (.ok true h) f k s = f s h := rfl
theorem u_ife1f (f k : De) (s : Sg) (h : Hs)  : ife1 (.ok false h) f k s = k s h := rfl
theorem u_ifs (c : Dt) (f k : Ds) (s : Sg) (h : Hs)  : dIfS c f k s h = ifs1 (c s h) f k s := rfl
theorem u_ifs1t (f k : Ds) (s : Sg) (h : Hs)  : ifs1 (.ok true h) f k s = f s h := rfl
theorem u_ifs1f (f k : Ds) (s : Sg) (h : Hs)  : ifs1 (.ok false h) f k s = k s h := rfl
theorem u_nx (s : Sg) (h : Hs)  : dNx s h = .nx s h := rfl
theorem u_expr (f : De) (s : Sg) (h : Hs)  : dExpr f s h = ex1 (f s h) s := rfl
theorem u_ex1 (v : Va) (s : Sg) (h : Hs)  : ex1 (.ok v h) s = .nx s h := rfl
theorem u_ret (f : De) (s : Sg) (h : Hs)  : dRet f s h = rt1 (f s h) s := rfl
theorem u_rt1 (v : Va) (s : Sg) (h : Hs)  : rt1 (.ok v h) s = .rt v h := rfl
theorem u_set (i : Nat) (f : De) (s : Sg) (h : Hs)  : dSet i f s h = st1 i (f s h) s := rfl
theorem u_st1 (i : Nat) (v : Va) (s : Sg) (h : Hs)  : st1 i (.ok v h) s = .nx (s.set i (some v)) h := rfl
theorem u_call (F : Fn) (np : Nat) (a : Da) (s : Sg) (h : Hs)  : dCall F np a s h = ca1 F np (a s h) := rfl
theorem u_ca1 (F : Fn) (np : Nat) (xs : List Va) (h : Hs) (hl : xs.length = np) : ca1 F np (.ok xs h) = callD F xs h := by unfold ca1; simp only [ev_bind_ok]; rw [if_pos]; simpa using hl
theorem u_call0 (F : Fn) (s : Sg) (h : Hs)  : dCall0 F s h = callD F [] h := rfl
theorem u_B (k : K1) (f : Da) (s : Sg) (h : Hs)  : dB k f s h = b1 k (f s h) := rfl
theorem u_b1 (k : K1) (xs : List Va) (h : Hs) : b1 k (.ok xs h) = lft (k xs h) := rfl
theorem u_rng (f : Da) (s : Sg) (h : Hs)  : dRng1 f s h = rn1 (f s h) := rfl
theorem u_rn1 (j : Int) (h : Hs) (h1 : 0 ≤ j) (h2 : j ≤ 1000000) : rn1 (.ok [.int j] h) = .ok (.rng 0 j.toNat) h := by
  have e : rgOk 0 j = true := by simp [rgOk]; omega
  show (if rgOk 0 j = true then Rs.ok (It'.rng 0 j.toNat) h else .no) = _
  rw [if_pos e]
theorem u_nxtR (lo : Int) (n i : Nat) (h : Hs) : nxt (.rng lo n) i h = some (bif decide (i < n) then some (.int (lo + (i : Int))) else none) := by simp [nxt, cond_eq_ite]
theorem u_lenR (lo : Int) (n : Nat) (h : Hs) : itLen (.rng lo n) h = n := rfl
theorem u_put (k : Va → Va → Va → Hs → Option Hs) (fo fi fv : De) (s : Sg) (h : Hs)  : dPutK k fo fi fv s h = pu1 k fo fi (fv s h) s := rfl
theorem u_pu1 (k : Va → Va → Va → Hs → Option Hs) (fo fi : De) (v : Va) (s : Sg) (h : Hs)  : pu1 k fo fi (.ok v h) s = pu2 k v fi (fo s h) s := rfl
theorem u_pu2 (k : Va → Va → Va → Hs → Option Hs) (v o : Va) (fi : De) (s : Sg) (h : Hs)  : pu2 k v fi (.ok o h) s = pu3 k v o (fi s h) s := rfl
theorem u_pu3 (k : Va → Va → Va → Hs → Option Hs) (v o i : Va) (s : Sg) (h : Hs)  : pu3 k v o (.ok i h) s = pu4 (k o i v h) s := rfl
theorem u_forS (n0 : Nat) (live : List Nat) (it : It') (t : Tg) (body : Ds) (f i : Nat) (s : Sg) (h : Hs)  : forC n0 live it t body (f + 1) i s h = fA (cleanS n0 live s h) n0 live it t body f i := by
  unfold forC fA
  cases cleanS n0 live s h with
  | none => rfl
  | some p =>
    obtain ⟨s1, h1⟩ := p
    simp only [fB]
    cases nxt it i h1 with
    | none => rfl
    | some o =>
      cases o with
      | none => rfl
      | some v =>
        simp only [fC]
        cases setT t v s1 h1 with
        | none => rfl
        | some s2 => (simp only [conT]; all_goals (cases body s2 h1 <;> rfl))
theorem u_fA (n0 : Nat) (live : List Nat) (it : It') (t : Tg) (body : Ds) (f i : Nat) (s : Sg) (h : Hs)  : fA (some (s, h)) n0 live it t body f i = fB (nxt it i h) n0 live it t body f i s h := rfl
theorem u_fB0 (n0 : Nat) (live : List Nat) (it : It') (t : Tg) (body : Ds) (f i : Nat) (s : Sg) (h : Hs)  : fB (some none) n0 live it t body f i s h = .nx s h := rfl
theorem u_fB1 (v : Va) (n0 : Nat) (live : List Nat) (it : It') (t : Tg) (body : Ds) (f i : Nat) (s : Sg) (h : Hs)  : fB (some (some v)) n0 live it t body f i s h = fC (setT t v s h) n0 live it t body f i h := rfl
theorem u_fC (n0 : Nat) (live : List Nat) (it : It') (t : Tg) (body : Ds) (f i : Nat) (s : Sg) (h : Hs)  : fC (some s) n0 live it t body f i h = conT n0 live it t body f i (body s h) := rfl
theorem u_con1 (n0 : Nat) (live : List Nat) (it : It') (t : Tg) (body : Ds) (f i : Nat) (s : Sg) (h : Hs)  : conT n0 live it t body f i (.nx s h) = forC n0 live it t body f (i + 1) s h := rfl
theorem u_con2 (n0 : Nat) (live : List Nat) (it : It') (t : Tg) (body : Ds) (f i : Nat) (s : Sg) (h : Hs)  : conT n0 live it t body f i (.ct s h) = forC n0 live it t body f (i + 1) s h := rfl
theorem u_ixo (v : Va) (h : Hs) (z : Option (Va × Hs)) : ixo (some v) h z = some (v, h) := rfl
theorem u_ixT (xs : List Va) (i : Int) (h : Hs) : kIxU (.tup xs) (.int i) h = ixo (L2.atI xs i) h none := by unfold kIxU kIx kDg ixo; simp only; cases L2.atI xs i <;> rfl
theorem u_ixR (r : Nat) (i : Int) (h : Hs) : kIxU (.ref r) (.int i) h = ixR h[r]? i h := by
  unfold kIxU kIx kDg ixR
  simp only
  cases h[r]? with
  | none => rfl
  | some o =>
    cases o with
    | lst xs => simp only [ixo]; cases L2.atI xs i <;> rfl
    | dK xs => simp only [ixo, Wr.keyOf, Option.bind_some]; cases gK xs (.inl i) <;> rfl
    | dF xs => simp only [ixo, Wr.keyOf, Option.bind_some]; cases gK xs (.inl i) <;> rfl
    | dT xs => rfl
    | dU xs => rfl
    | ins c xs => rfl
theorem u_ixRl (xs : List Va) (i : Int) (h : Hs) : ixR (some (.lst xs)) i h = ixo (L2.atI xs i) h none := rfl
theorem u_atI {α : Type} (xs : List α) (i : Int) : L2.atI xs i = (L2.ixN xs.length i).bind fun j => xs[j]? := rfl
theorem u_ixN (n : Nat) (i : Int) : L2.ixN n i = if 0 ≤ i then (if i < n then some i.toNat else none) else if -(n : Int) ≤ i then some (i + n).toNat else none := rfl
theorem u_kLt (i j : Int) (h : Hs) : kLt (.int i) (.int j) h = some (.bl (decide (i < j)), h) := rfl
theorem u_kSub (i j : Int) (h : Hs) : kSub (.int i) (.int j) h = some (.int (i - j), h) := rfl
theorem u_kAdd (i j : Int) (h : Hs) : kAdd (.int i) (.int j) h = some (.int (i + j), h) := rfl
theorem u_mul (i j : Int) (h : Hs) (hi : -18446744073709551616 < i ∧ i < 18446744073709551616) : kMul (.int i) (.int j) h = some (.int (i * j), h) := ev_mul_l h i j hi.1 hi.2
theorem u_mulr (i j : Int) (h : Hs) (hj : -18446744073709551616 < j ∧ j < 18446744073709551616) : kMul (.int i) (.int j) h = some (.int (i * j), h) := ev_mul_r h i j hj.1 hj.2
theorem u_addT (xs ys : List Va) (h : Hs) (hl : xs.length + ys.length ≤ 16777216) : kAdd (.tup xs) (.tup ys) h = some (.tup (xs ++ ys), h) := by show (if okN (xs.length + ys.length) then _ else _) = _; rw [if_pos]; simpa using hl
theorem u_eq (x y : Va) (h : Hs) : kEq x y h = eq2 (toD h 9 x) (toD h 9 y) h true := rfl
theorem u_ne (x y : Va) (h : Hs) : kNe x y h = eq2 (toD h 9 x) (toD h 9 y) h false := rfl
theorem u_eq2f (d e : PyData) (h : Hs) : eq2 (some d) (some e) h false = some (.bl (!PyData.eqv d e), h) := rfl
theorem u_tdR (h : Hs) (n i : Nat) : toD h (n + 1) (.ref i) = tdL h[i]? h n := rfl
theorem u_tdL (xs : List Va) (h : Hs) (n : Nat) : tdL (some (.lst xs)) h n = tdLL (tdS h n xs) := rfl
theorem u_tdLL (l : List PyData) : tdLL (some l) = some (.list l) := rfl
theorem u_tdTT (l : List PyData) : tdTT (some l) = some (.tuple l) := rfl
theorem u_tdT (h : Hs) (n : Nat) (xs : List Va) : toD h (n + 1) (.tup xs) = tdTT (tdS h n xs) := rfl
theorem u_tdS1 (h : Hs) (n : Nat) (x : Va) (xs : List Va) : tdS h n (x :: xs) = tdC (toD h n x) (tdS h n xs) := by unfold tdS tdC; rw [mapO]; cases toD h n x with | none => rfl | some y => (simp only []; cases mapO (toD h n) xs <;> rfl)
theorem u_tdC (y : PyData) (ys : List PyData) : tdC (some y) (some ys) = some (y :: ys) := rfl
theorem u_lenTup (xs : List Va) (h : Hs) : kLen [.tup xs] h = some (.int xs.length, h) := rfl
theorem u_lenRef (r : Nat) (h : Hs) : kLen [.ref r] h = lenR h[r]? h := rfl
theorem u_lenR1 (ys : List Va) (h : Hs) : lenR (some (.lst ys)) h = some (.int ys.length, h) := rfl
theorem u_g0 {α : Type} (x : α) (l : List α) : (x :: l)[0]? = some x := rfl
theorem u_gS {α : Type} (x : α) (l : List α) (n : Nat) : (x :: l)[n + 1]? = l[n]? := rfl
theorem u_gN {α : Type} (n : Nat) : ([] : List α)[n]? = none := rfl
end Wr
set_option Elab.async false
set_option linter.all false
set_option maxRecDepth 100000
set_option maxHeartbeats 4000000
set_option autoImplicit false
namespace Wr
open PySem PySem.Spec PyProof.Rows L2
section
variable {f : Nat → Option Nat}
mutual
theorem ren_low : ∀ v : Va, (∀ x ∈ refsV v, f x = some x) → ren f v = some v
  | .ref i, h => by simp [ren, h i (by simp [refsV])]
  | .tup xs, h => by simp [ren, rens_low xs (by simpa [refsV] using h)]
  | .non, _ => rfl
  | .bl _, _ => rfl
  | .int _, _ => rfl
  | .str _, _ => rfl
  | .ty _, _ => rfl
  | .gl _, _ => rfl
  | .scr, _ => rfl
  | .exc _, _ => rfl
theorem rens_low : ∀ v : List Va, (∀ x ∈ refsVs v, f x = some x) → rens f v = some v
  | [], _ => rfl
  | x :: xs, h => by
    simp only [refsVs, List.mem_append] at h
    simp [rens, ren_low x fun y hy => h y (.inl hy), rens_low xs fun y hy => h y (.inr hy)]
end
theorem renK_low {κ : Type} : ∀ v : List (κ × Va), (∀ x ∈ refsK v, f x = some x) → renK f v = some v
  | [], _ => rfl
  | (k, x) :: xs, h => by
    simp only [refsK, List.mem_append] at h
    simp [renK, ren_low x fun y hy => h y (.inl hy), renK_low xs fun y hy => h y (.inr hy)]
theorem renO_low (o : Ob) (h : ∀ x ∈ refsO o, f x = some x) : renO f o = some o := by
  cases o with
  | lst xs => simp [renO, rens_low xs h]
  | dK xs => simp [renO, renK_low xs h]
  | dT xs => simp [renO, renK_low xs h]
  | dU xs => simp [renO, renK_low xs h]
  | dF xs => simp [renO, renK_low xs h]
  | ins c xs => simp [renO, renK_low xs h]
end
theorem nil_low {P : Nat → Prop} {l : List Nat} (h : l = []) : ∀ x ∈ l, P x := by subst h; intro x hx; cases hx
end Wr
set_option Elab.async false
set_option linter.all false
set_option maxRecDepth 100000
set_option maxHeartbeats 4000000
set_option autoImplicit false
namespace Wr
open PySem PySem.Spec PyProof.Rows L2
def fl (b : Bool) (y : Va) (ys : List Va) : List Va := bif b then y :: ys else ys
def bN (b : Bool) : Nat := bif b then 1 else 0
end Wr
namespace Pg
open PySem PySem.Spec PyProof.Rows L2 Wr
def rowsL (rs : List (List Int)) : List Va := rs.map fun r => .tup (r.map Va.int)
def rows2 (t u x y : Int) : List (List Int) := if x = y then [[t, u]] else if y < x then [[t], [u]] else [[u], [t]]
def rows3 (x y z : Int) : List (List Int) :=
  if x = y then (if y = z then [[0, 1, 2]] else if z < y then [[0, 1], [2]] else [[2], [0, 1]])
  else if y < x then (if z = x then [[0, 2], [1]] else if z = y then [[0], [1, 2]] else if x < z then [[2], [0], [1]] else if z < y then [[0], [1], [2]] else [[0], [2], [1]])
  else (if z = x then [[1], [0, 2]] else if z = y then [[1, 2], [0]] else if y < z then [[2], [1], [0]] else if z < x then [[1], [0], [2]] else [[1], [2], [0]])
def mg01 (a b c d e f : Int) : Int := (a + (b + (e + 0))) - (c + (d + (f + 0)))
def mg02 (a b c d e f : Int) : Int := (a + (b + (c + 0))) - (d + (e + (f + 0)))
def mg10 (a b c d e f : Int) : Int := (c + (d + (f + 0))) - (a + (b + (e + 0)))
def mg12 (a b c d e f : Int) : Int := (a + (c + (d + 0))) - (b + (e + (f + 0)))
def mg20 (a b c d e f : Int) : Int := (d + (e + (f + 0))) - (a + (b + (c + 0)))
def mg21 (a b c d e f : Int) : Int := (b + (e + (f + 0))) - (a + (c + (d + 0)))
def du2 (x y : Int) : Int := 2 * ((bN (decide (0 < x)) + bN (decide (0 < y)) : Nat) : Int) + ((bN (decide (x = 0)) + bN (decide (y = 0)) : Nat) : Int)
def du1 (x : Int) : Int := 2 * ((bN (decide (0 < x)) : Nat) : Int) + ((bN (decide (x = 0)) : Nat) : Int)
def wo2 (x y : Int) : Int := minI x [y]
end Pg
set_option Elab.async false
set_option linter.all false
set_option maxRecDepth 100000
set_option maxHeartbeats 4000000
set_option autoImplicit false
namespace Pg
open PySem PySem.Spec PyProof.Rows L2 Wr
structure B6 where
  (a b c d e f : Int)
def B6.v (x : B6) : Va := Bk x.a x.b x.c x.d x.e x.f
def B6.ok (x : B6) : Prop := B99 x.a x.b x.c x.d x.e x.f
def B6.turn (x : B6) : B6 := ⟨x.f, x.d, x.e, x.b, x.c, x.a⟩
inductive Rl where
  | pts (p q r : Int) | du | wo | out (x : Rl) | bk (x : Rl) | th (x y : Rl)
def sPts : Va := .str (Str.mk #[112, 111, 105, 110, 116, 115])
def sDu : Va := .str (Str.mk #[100, 117, 101, 108, 115])
def sWo : Va := .str (Str.mk #[119, 111, 114, 115, 116])
def sOut : Va := .str (Str.mk #[111, 117, 116])
def sBk : Va := .str (Str.mk #[98, 97, 99, 107])
def sTh : Va := .str (Str.mk #[116, 104, 101, 110])
def Rl.v : Rl → Va
  | .pts p q r => .tup [sPts, .tup [.int p, .int q, .int r]]
  | .du => .tup [sDu]
  | .wo => .tup [sWo]
  | .out x => .tup [sOut, x.v]
  | .bk x => .tup [sBk, x.v]
  | .th x y => .tup [sTh, x.v, y.v]
def Rl.ok : Rl → Prop
  | .pts p q r => (0 ≤ p ∧ p ≤ 9) ∧ (0 ≤ q ∧ q ≤ 9) ∧ (0 ≤ r ∧ r ≤ 9)
  | .du => True
  | .wo => True
  | .out x => x.ok
  | .bk x => x.ok
  | .th x y => x.ok ∧ y.ok
def Rl.deep : Rl → Nat
  | .pts _ _ _ => 1
  | .du => 1
  | .wo => 1
  | .out x => x.deep + 1
  | .bk x => x.deep + 1
  | .th x y => max x.deep y.deep + 1
def Ls : Nat → List Int
  | 0 => [0, 1, 2]
  | 1 => [0, 1]
  | 2 => [0, 2]
  | 3 => [1, 2]
  | 4 => [0]
  | 5 => [1]
  | _ => [2]
def leafR (x : Rl) (b : B6) (k : Nat) : List (List Int) :=
  match k, x with
  | 0, .pts p q r => rows3 (p * b.a + p * b.b + q * b.c + r * b.d + q * b.e + r * b.f) (q * b.a + r * b.b + p * b.c + p * b.d + r * b.e + q * b.f) (r * b.a + q * b.b + r * b.c + q * b.d + p * b.e + p * b.f)
  | 1, .pts p q r => rows2 0 1 (p * b.a + p * b.b + r * b.c + r * b.d + p * b.e + r * b.f) (r * b.a + r * b.b + p * b.c + p * b.d + r * b.e + p * b.f)
  | 2, .pts p q r => rows2 0 2 (p * b.a + p * b.b + p * b.c + r * b.d + r * b.e + r * b.f) (r * b.a + r * b.b + r * b.c + p * b.d + p * b.e + p * b.f)
  | 3, .pts p q r => rows2 1 2 (p * b.a + r * b.b + p * b.c + p * b.d + r * b.e + r * b.f) (r * b.a + p * b.b + r * b.c + r * b.d + p * b.e + p * b.f)
  | 0, .du => rows3 (du2 (mg01 b.a b.b b.c b.d b.e b.f) (mg02 b.a b.b b.c b.d b.e b.f)) (du2 (mg10 b.a b.b b.c b.d b.e b.f) (mg12 b.a b.b b.c b.d b.e b.f)) (du2 (mg20 b.a b.b b.c b.d b.e b.f) (mg21 b.a b.b b.c b.d b.e b.f))
  | 1, .du => rows2 0 1 (du1 (mg01 b.a b.b b.c b.d b.e b.f)) (du1 (mg10 b.a b.b b.c b.d b.e b.f))
  | 2, .du => rows2 0 2 (du1 (mg02 b.a b.b b.c b.d b.e b.f)) (du1 (mg20 b.a b.b b.c b.d b.e b.f))
  | 3, .du => rows2 1 2 (du1 (mg12 b.a b.b b.c b.d b.e b.f)) (du1 (mg21 b.a b.b b.c b.d b.e b.f))
  | 0, .wo => rows3 (wo2 (mg01 b.a b.b b.c b.d b.e b.f) (mg02 b.a b.b b.c b.d b.e b.f)) (wo2 (mg10 b.a b.b b.c b.d b.e b.f) (mg12 b.a b.b b.c b.d b.e b.f)) (wo2 (mg20 b.a b.b b.c b.d b.e b.f) (mg21 b.a b.b b.c b.d b.e b.f))
  | 1, .wo => rows2 0 1 (minI (mg01 b.a b.b b.c b.d b.e b.f) []) (minI (mg10 b.a b.b b.c b.d b.e b.f) [])
  | 2, .wo => rows2 0 2 (minI (mg02 b.a b.b b.c b.d b.e b.f) []) (minI (mg20 b.a b.b b.c b.d b.e b.f) [])
  | 3, .wo => rows2 1 2 (minI (mg12 b.a b.b b.c b.d b.e b.f) []) (minI (mg21 b.a b.b b.c b.d b.e b.f) [])
  | k, _ => [Ls k]
theorem refs_rule : ∀ x : Rl, refsV x.v = []
  | .pts p q r => by simp [Rl.v, refsV, refsVs, sPts]
  | .du => by simp [Rl.v, refsV, refsVs, sDu]
  | .wo => by simp [Rl.v, refsV, refsVs, sWo]
  | .out x => by simp [Rl.v, refsV, refsVs, sOut, refs_rule x]
  | .bk x => by simp [Rl.v, refsV, refsVs, sBk, refs_rule x]
  | .th x y => by simp [Rl.v, refsV, refsVs, sTh, refs_rule x, refs_rule y]
end Pg
set_option Elab.async false
set_option linter.all false
set_option maxRecDepth 100000
set_option maxHeartbeats 4000000
set_option autoImplicit false
namespace Pg
open PySem PySem.Spec PyProof.Rows L2 Wr
def lastRow (rs : List (List Int)) : List Int := rs.getLast?.getD []
def codeOf (l : List Int) : Nat := if l = [0, 1, 2] then 0 else if l = [0, 1] then 1 else if l = [0, 2] then 2 else if l = [1, 2] then 3 else if l = [0] then 4 else if l = [1] then 5 else if l = [2] then 6 else 7
def leaveR (F : Nat → List (List Int)) : Nat → Nat → List (List Int)
  | 0, _ => []
  | n + 1, k => (if codeOf ((Ls k).filter fun t => !((lastRow (F k)).contains t)) < 7 then leaveR F n (codeOf ((Ls k).filter fun t => !((lastRow (F k)).contains t))) else []) ++ [lastRow (F k)]
def thnR (r1 r2 : List (List Int)) : List (List Int) := (r1.flatMap fun row => r2.map fun s => s.filter fun t => row.contains t).filter fun r => !r.isEmpty
def rk : Rl → B6 → Nat → List (List Int)
  | .pts p q r, b, k => leafR (.pts p q r) b k
  | .du, b, k => leafR .du b k
  | .wo, b, k => leafR .wo b k
  | .out x, b, k => leaveR (fun j => rk x b j) 3 k
  | .bk x, b, k => (rk x b.turn k).reverse
  | .th x y, b, k => thnR (rk x b k) (rk y b k)
def tab (r0 r1 r2 r3 : List (List Int)) : Nat → List (List Int)
  | 0 => r0
  | 1 => r1
  | 2 => r2
  | 3 => r3
  | 4 => [[0]]
  | 5 => [[1]]
  | 6 => [[2]]
  | _ => []
end Pg
set_option Elab.async false
set_option linter.all false
set_option maxRecDepth 100000
set_option maxHeartbeats 4000000
set_option autoImplicit false
namespace Pg
open PySem PySem.Spec PyProof.Rows L2 Wr
theorem tdS_ints (h : Hs) (n : Nat) : ∀ l : List Int, tdS h n (l.map Va.int) = some (l.map PyData.int)
  | [] => rfl
  | x :: l => by rw [List.map_cons, u_tdS1, toD_int, tdS_ints h n l, u_tdC, List.map_cons]
def isIn (row : List Int) : Va → Bool
  | .int t => row.contains t
  | _ => false
section
variable (F : Fn) (xv yv bv : Va) (k : Nat) (r1 r2 : List (List Int))
def cutV (row : List Int) : Va → Va
  | .tup xs => .tup (xs.filter (isIn row))
  | v => v
end
end Pg
set_option Elab.async false
set_option linter.all false
set_option maxRecDepth 100000
set_option maxHeartbeats 4000000
set_option autoImplicit false
namespace Pg
open PySem PySem.Spec PyProof.Rows L2 Wr
def Rl.d : Rl → PyData
  | .pts p q r => .tuple [.str (Str.mk #[112, 111, 105, 110, 116, 115]), .tuple [.int p, .int q, .int r]]
  | .du => .tuple [.str (Str.mk #[100, 117, 101, 108, 115])]
  | .wo => .tuple [.str (Str.mk #[119, 111, 114, 115, 116])]
  | .out x => .tuple [.str (Str.mk #[111, 117, 116]), x.d]
  | .bk x => .tuple [.str (Str.mk #[98, 97, 99, 107]), x.d]
  | .th x y => .tuple [.str (Str.mk #[116, 104, 101, 110]), x.d, y.d]
theorem flat_call {F : Fn} {args : List Va} {v : Va} (ha : refsVs args = []) (hv : refsV v = []) (e : F args [] = .ok v []) (h : Hs) : callD F args h = .ok v h :=
  callD_flat ha (rens_low args (nil_low ha)) (ren_low v (nil_low hv)) e
end Pg
set_option Elab.async false
set_option linter.all false
set_option maxRecDepth 100000
set_option maxHeartbeats 4000000
set_option autoImplicit false
namespace Wr
open PySem PySem.Spec PyProof.Rows L2
end Wr
namespace Pg
open PySem PySem.Spec PyProof.Rows L2 Wr
end Pg
set_option Elab.async false
set_option linter.all false
set_option maxRecDepth 100000
set_option maxHeartbeats 4000000
set_option autoImplicit false
namespace Pg
open PySem PySem.Spec PyProof.Rows L2 Wr
end Pg
set_option Elab.async false
set_option linter.all false
set_option maxRecDepth 100000
set_option maxHeartbeats 4000000
set_option autoImplicit false
namespace Wr
open PySem PySem.Spec PyProof.Rows L2
end Wr
namespace Pg
open PySem PySem.Spec PyProof.Rows L2 Wr
/-- a rule of this depth at most is drawn at this place, whatever is about -/
def Drawn (ns : List Int) (at_ : Int) (d : Nat) : Prop := ∃ x : Rl, x.ok ∧ x.deep ≤ d ∧ ∀ m, d ≤ m → _law_rule ns m [.scr, .int at_, .int d] [] = .ok x.v []
theorem Drawn.call {ns : List Int} {at_ : Int} {d : Nat} (h : Drawn ns at_ d) : ∃ x : Rl, x.ok ∧ x.deep ≤ d ∧ ∀ m, d ≤ m → ∀ h, callD (_law_rule ns m) [.scr, .int at_, .int d] h = .ok x.v h := by
  obtain ⟨x, h1, h2, h3⟩ := h
  exact ⟨x, h1, h2, fun m hm h => flat_call rfl (refs_rule x) (h3 m hm) h⟩
end Pg
set_option Elab.async false
set_option linter.all false
set_option maxRecDepth 100000
set_option maxHeartbeats 4000000
set_option autoImplicit false
namespace Wr
open PySem PySem.Spec PyProof.Rows L2
def td1Y (o : Option (Sg × Hs)) (k : Ds) : RS := match o with
  | some (s2, h2) => k s2 h2
  | none => .no
def foTY (live : List Nat) (t : Tg) (body : Nat → Ds) (r : Rs It') (s : Sg) : RS := r.bindS s fun it h1 => forC h1.length live it t (body h1.length) (itLen it h1 + 1) 0 s h1
theorem y_seqT (n0 : Nat) (live : List Nat) (f k : Ds) (s : Sg) (h : Hs) : dSeqT n0 live f k s h = thT n0 live (f s h) k := rfl
theorem y_thT1 (n0 : Nat) (live : List Nat) (k : Ds) (s : Sg) (h : Hs) : thT n0 live (.nx s h) k = td1Y (cleanS n0 live s h) k := rfl
theorem y_forT (live : List Nat) (di : Di) (t : Tg) (body : Nat → Ds) (s : Sg) (h : Hs) : dForT live di t body s h = foTY live t body (di s h) s := rfl
theorem y_foT (live : List Nat) (t : Tg) (body : Nat → Ds) (it : It') (s : Sg) (h : Hs) : foTY live t body (.ok it h) s = forC h.length live it t (body h.length) (itLen it h + 1) 0 s h := rfl
theorem ren_flat {v : Va} (f : Nat → Option Nat) (hv : refsV v = []) : ren f v = some v := ren_low v (nil_low hv)
end Wr
namespace Pg
open PySem PySem.Spec PyProof.Rows L2 Wr
end Pg
set_option Elab.async false
set_option linter.all false
set_option maxRecDepth 100000
set_option maxHeartbeats 4000000
set_option autoImplicit false
namespace Wr
open PySem PySem.Spec PyProof.Rows L2
theorem forC_at {n0 : Nat} {live : List Nat} {it : It'} {t : Tg} {body : Ds} (st : Nat → Sg) (hp : Nat → Hs) (N : Nat) (hend : nxt it N (hp N) = some none)
    (step : ∀ j, j < N → ∃ v s1 s2 h2, nxt it j (hp j) = some (some v) ∧ setT t v (st j) (hp j) = some s1 ∧ (body s1 (hp j) = .nx s2 h2 ∨ body s1 (hp j) = .ct s2 h2) ∧ cleanS n0 live s2 h2 = some (st (j + 1), hp (j + 1))) :
    ∀ (f j : Nat) (s : Sg) (h : Hs), j + f = N + 1 → 0 < f → cleanS n0 live s h = some (st j, hp j) → forC n0 live it t body f j s h = .nx (st N) (hp N)
  | 0, _, _, _, _, z, _ => absurd z (Nat.lt_irrefl 0)
  | f + 1, j, s, h, ef, _, hc => by
    rw [u_forS, hc, u_fA]
    by_cases hj : j < N
    · obtain ⟨v, s1, s2, h2, q1, q2, q3, q4⟩ := step j hj
      rw [q1, u_fB1, q2, u_fC]
      rcases q3 with q3 | q3
      · rw [q3, u_con1]; exact forC_at st hp N hend step f (j + 1) s2 h2 (by omega) (by omega) q4
      · rw [q3, u_con2]; exact forC_at st hp N hend step f (j + 1) s2 h2 (by omega) (by omega) q4
    · have e : j = N := by omega
      subst e
      rw [hend, u_fB0]
/-- for .. in range(N) -/
theorem forT_rng {live : List Nat} {t : Tg} {body : Nat → Ds} {di : Di} (N : Nat) (st : Nat → Sg) (hp : Nat → Hs) {s : Sg} {h h1 : Hs} (hi : di s h = .ok (.rng 0 N) h1) (hc : cleanS h1.length live s h1 = some (st 0, hp 0))
    (step : ∀ j, j < N → ∃ s1 s2 h2, setT t (.int j) (st j) (hp j) = some s1 ∧ (body h1.length s1 (hp j) = .nx s2 h2 ∨ body h1.length s1 (hp j) = .ct s2 h2) ∧ cleanS h1.length live s2 h2 = some (st (j + 1), hp (j + 1))) :
    dForT live di t body s h = .nx (st N) (hp N) := by
  rw [y_forT, hi, y_foT, u_lenR]
  refine forC_at st hp N (by rw [u_nxtR]; simp) (fun j hj => ?_) (N + 1) 0 s h1 (by omega) (by omega) hc
  obtain ⟨s1, s2, h2, q1, q2, q3⟩ := step j hj
  exact ⟨.int j, s1, s2, h2, by rw [u_nxtR]; simp [hj], q1, q2, q3⟩
theorem stepT {n0 : Nat} {live : List Nat} {f k : Ds} {s : Sg} {h : Hs} {s1 : Sg} {h1 : Hs} {s2 : Sg} {h2 : Hs} {r : RS} (e : f s h = .nx s1 h1) (c : cleanS n0 live s1 h1 = some (s2, h2)) (q : k s2 h2 = r) : dSeqT n0 live f k s h = r := by
  rw [y_seqT, e, y_thT1, c]; exact q
def Like (h : Hs) (n : Nat) (v : Va) : Prop := ∃ d, toD h n v = some d ∧ PyData.eqv d d = true
theorem Like.int (h : Hs) (n : Nat) (i : Int) : Like h n (.int i) := ⟨.int i, by rw [toD_int], by rw [eqv_int]; simp⟩
theorem tdS_like {h : Hs} {n : Nat} : ∀ l : List Va, (∀ v ∈ l, Like h n v) → ∃ ds, tdS h n l = some ds ∧ PyData.eqvAll ds ds = true
  | [], _ => ⟨[], rfl, by simp [PyData.eqvAll]⟩
  | x :: l, q => by
    obtain ⟨d, e1, e2⟩ := q x (by simp)
    obtain ⟨ds, e3, e4⟩ := tdS_like l fun v hv => q v (by simp [hv])
    exact ⟨d :: ds, by rw [u_tdS1, e1, e3, u_tdC], by rw [eqv_all1, e2, e4]; rfl⟩
theorem Like.tup {h : Hs} {n : Nat} {l : List Va} (q : ∀ v ∈ l, Like h n v) : Like h (n + 1) (.tup l) := by
  obtain ⟨ds, e1, e2⟩ := tdS_like l q
  exact ⟨.tuple ds, by rw [u_tdT, e1, u_tdTT], by rw [eqv_tup]; exact e2⟩
theorem Like.lst {h : Hs} {n r : Nat} {l : List Va} (hr : h[r]? = some (.lst l)) (q : ∀ v ∈ l, Like h n v) : Like h (n + 1) (.ref r) := by
  obtain ⟨ds, e1, e2⟩ := tdS_like l q
  exact ⟨.list ds, by rw [u_tdR, hr, u_tdL, e1, u_tdLL], by rw [eqv_lst]; exact e2⟩
end Wr
set_option Elab.async false
set_option linter.all false
set_option maxRecDepth 100000
set_option maxHeartbeats 4000000
set_option autoImplicit false
namespace Pg
open PySem PySem.Spec PyProof.Rows L2 Wr
def B6.get (x : B6) : Nat → Int
  | 0 => x.a
  | 1 => x.b
  | 2 => x.c
  | 3 => x.d
  | 4 => x.e
  | _ => x.f
def B6.dec (x : B6) : Nat → B6
  | 0 => ⟨x.a - 1, x.b, x.c, x.d, x.e, x.f⟩
  | 1 => ⟨x.a, x.b - 1, x.c, x.d, x.e, x.f⟩
  | 2 => ⟨x.a, x.b, x.c - 1, x.d, x.e, x.f⟩
  | 3 => ⟨x.a, x.b, x.c, x.d - 1, x.e, x.f⟩
  | 4 => ⟨x.a, x.b, x.c, x.d, x.e - 1, x.f⟩
  | _ => ⟨x.a, x.b, x.c, x.d, x.e, x.f - 1⟩
def B6.inc (x : B6) : Nat → B6
  | 0 => ⟨x.a + 1, x.b, x.c, x.d, x.e, x.f⟩
  | 1 => ⟨x.a, x.b + 1, x.c, x.d, x.e, x.f⟩
  | 2 => ⟨x.a, x.b, x.c + 1, x.d, x.e, x.f⟩
  | 3 => ⟨x.a, x.b, x.c, x.d + 1, x.e, x.f⟩
  | 4 => ⟨x.a, x.b, x.c, x.d, x.e + 1, x.f⟩
  | _ => ⟨x.a, x.b, x.c, x.d, x.e, x.f + 1⟩
def B6.chg (x : B6) (n o : Nat) : B6 := (x.dec n).inc o
/-- at most 98 of each -/
def B6.ok1 (x : B6) : Prop := (0 ≤ x.a ∧ x.a ≤ 98) ∧ (0 ≤ x.b ∧ x.b ≤ 98) ∧ (0 ≤ x.c ∧ x.c ≤ 98) ∧ (0 ≤ x.d ∧ x.d ≤ 98) ∧ (0 ≤ x.e ∧ x.e ≤ 98) ∧ (0 ≤ x.f ∧ x.f ≤ 98)
theorem B6.ok1.ok {x : B6} (h : x.ok1) : x.ok := by unfold B6.ok1 at h; unfold B6.ok B99; omega
theorem atI_nat {α : Type} (l : List α) (n : Nat) (hn : n < l.length) : L2.atI l (n : Int) = l[n]? := by
  rw [u_atI, u_ixN, if_pos (by omega), if_pos (by omega)]
  simp
def sg (R : List (List Int)) : Option Int := match R with
  | [t] :: _ => some t
  | _ => none
/-- the place of a thing in a wish -/
def wp : Nat → Int → Int
  | 0, t => if t = 0 then 0 else if t = 1 then 1 else 2
  | 1, t => if t = 0 then 0 else if t = 2 then 1 else 2
  | 2, t => if t = 1 then 0 else if t = 0 then 1 else 2
  | 3, t => if t = 1 then 0 else if t = 2 then 1 else 2
  | 4, t => if t = 2 then 0 else if t = 0 then 1 else 2
  | _, t => if t = 2 then 0 else if t = 1 then 1 else 2
def gdO (n : Nat) : Option Int → Option Int → Bool
  | some w, some t => decide (wp n t < wp n w)
  | _, _ => false
def gd (x : Rl) (b : B6) (n o : Nat) : Bool := gdO n (sg (rk x b 0)) (sg (rk x (b.chg n o) 0))
def wl : Nat → List Int
  | 0 => [0, 1, 2]
  | 1 => [0, 2, 1]
  | 2 => [1, 0, 2]
  | 3 => [1, 2, 0]
  | 4 => [2, 0, 1]
  | _ => [2, 1, 0]
end Pg
set_option Elab.async false
set_option linter.all false
set_option maxRecDepth 100000
set_option maxHeartbeats 4000000
set_option autoImplicit false
namespace Wr
open PySem PySem.Spec PyProof.Rows L2
end Wr
namespace Pg
open PySem PySem.Spec PyProof.Rows L2 Wr
theorem refs_wv (n : Nat) : refsV (wv n) = [] := by
  unfold wv
  repeat' split
  all_goals rfl
theorem atW (n : Nat) (hn : n < 6) : L2.atI [wv 0, wv 1, wv 2, wv 3, wv 4, wv 5] (n : Int) = some (wv n) := by
  rcases lt6 hn with rfl | rfl | rfl | rfl | rfl | rfl <;> rfl
theorem rowsL_cons (l : List Int) (t : List (List Int)) : rowsL (l :: t) = .tup (l.map Va.int) :: rowsL t := rfl
end Pg
set_option Elab.async false
set_option linter.all false
set_option maxRecDepth 100000
set_option maxHeartbeats 4000000
set_option autoImplicit false
namespace Pg
open PySem PySem.Spec PyProof.Rows L2 Wr
def hd (R : List (List Int)) : List Int := R.headD []
end Pg
set_option Elab.async false
set_option linter.all false
set_option maxRecDepth 100000
set_option maxHeartbeats 4000000
set_option autoImplicit false
namespace Pg
open PySem PySem.Spec PyProof.Rows L2 Wr
end Pg
set_option Elab.async false
set_option linter.all false
set_option maxRecDepth 100000
set_option maxHeartbeats 4000000
set_option autoImplicit false
namespace Wr
open PySem PySem.Spec PyProof.Rows L2
end Wr
namespace Pg
open PySem PySem.Spec PyProof.Rows L2 Wr
abbrev pr0 : Va := (.str (Str.mk #[110, 97, 109, 101, 115]))
def B6.h (b : B6) : Prop := (0 ≤ b.a ∧ b.a ≤ 49) ∧ (0 ≤ b.b ∧ b.b ≤ 49) ∧ (0 ≤ b.c ∧ b.c ≤ 49) ∧ (0 ≤ b.d ∧ b.d ≤ 49) ∧ (0 ≤ b.e ∧ b.e ≤ 49) ∧ (0 ≤ b.f ∧ b.f ≤ 49)
theorem B6.h.ok1 {b : B6} (hb : b.h) : b.ok1 := by unfold B6.h at hb; unfold B6.ok1; omega
def first : Nat → Nat
  | 0 => 0
  | 1 => 0
  | 2 => 1
  | 3 => 1
  | 4 => 2
  | _ => 2
theorem neInts (l m : List Int) (h : Hs) : kNe (.tup (l.map Va.int)) (.tup (m.map Va.int)) h = some (.bl (!decide (l = m)), h) := by
  have : ∀ l m : List Int, PyData.eqvAll (l.map PyData.int) (m.map PyData.int) = decide (l = m) := by
    intro l
    induction l with
    | nil => intro m; cases m <;> simp [PyData.eqvAll]
    | cons a l ih =>
      intro m
      cases m with
      | nil => simp [PyData.eqvAll]
      | cons c m =>
        rw [List.map_cons, List.map_cons, eqv_all1, eqv_int, ih m]
        by_cases h1 : a = c
        · subst h1
          by_cases h2 : l = m
          · subst h2; simp
          · simp [h2]
        · simp [h1]
  rw [u_ne, u_tdT, u_tdT, tdS_ints, tdS_ints, u_tdTT, u_tdTT, u_eq2f, eqv_tup, this]
def rowD' (l : List Int) : PyData := .tuple (l.map PyData.int)
theorem tdS_rows' (h : Hs) (n : Nat) : ∀ l : List (List Int), tdS h (n + 1) (rowsL l) = some (l.map rowD')
  | [] => rfl
  | x :: l => by
    rw [rowsL_cons, u_tdS1, u_tdT, tdS_ints, u_tdTT, tdS_rows' h n l, u_tdC, List.map_cons]
    rfl
end Pg
set_option Elab.async false
set_option linter.all false
set_option maxRecDepth 100000
set_option maxHeartbeats 4000000
set_option autoImplicit false
namespace Wr
open PySem PySem.Spec PyProof.Rows L2
def nums (g : List Nat) : List Va := g.map fun j : Nat => Va.int j
def NestL (H : Hs) : List Nat → List (List Nat) → Prop
  | [], [] => True
  | r :: rs, g :: gs => H[r]? = some (.lst (nums g)) ∧ NestL H rs gs
  | _, _ => False
theorem NestL.app {H G : Hs} : ∀ {rs : List Nat} {gs : List (List Nat)}, NestL H rs gs → NestL (H ++ G) rs gs
  | [], [], _ => trivial
  | r :: rs, g :: gs, h => ⟨by rw [List.getElem?_append_left (List.getElem?_eq_some_iff.mp h.1).1]; exact h.1, NestL.app h.2⟩
  | [], _ :: _, h => h.elim
  | _ :: _, [], h => h.elim
end Wr
set_option Elab.async false
set_option linter.all false
set_option maxRecDepth 100000
set_option maxHeartbeats 4000000
set_option autoImplicit false
namespace Wr
open PySem PySem.Spec PyProof.Rows L2
end Wr
namespace Pg
open PySem PySem.Spec PyProof.Rows L2 Wr
def RL (rl : List Rl) : List Va := rl.map Rl.v
section
variable (rl : List Rl) (b : B6)
def Rr (i : Nat) : List (List Int) := rk (rl.getD i .du) b 0
end
end Pg
set_option Elab.async false
set_option linter.all false
set_option maxRecDepth 100000
set_option maxHeartbeats 4000000
set_option autoImplicit false
namespace Wr
open PySem PySem.Spec PyProof.Rows L2
end Wr
namespace Pg
open PySem PySem.Spec PyProof.Rows L2 Wr
section
variable (rl : List Rl) (b : B6)
def fI (i : Nat) : Va := .tup ((hd (Rr rl b i)).map Va.int)
def fstL : List Va := (List.range rl.length).map (fI rl b)
end
end Pg
set_option Elab.async false
set_option linter.all false
set_option maxRecDepth 100000
set_option maxHeartbeats 4000000
set_option autoImplicit false
namespace Wr
open PySem PySem.Spec PyProof.Rows L2
/-- the references of these stand in it -/
def Fit (h0 : Hs) (t : List Nat) : Prop := t = [] ∨ ((∃ l, h0 = [.lst l]) ∧ ∀ x ∈ t, x = 0)
theorem Fit.sub {h0 : Hs} {t u : List Nat} (h : Fit h0 t) (s : ∀ x ∈ u, x ∈ t) : Fit h0 u := by
  rcases h with h | ⟨h1, h2⟩
  · left
    cases u with
    | nil => rfl
    | cons x u => have := s x List.mem_cons_self; rw [h] at this; cases this
  · exact .inr ⟨h1, fun x hx => h2 x (s x hx)⟩
end Wr
set_option Elab.async false
set_option linter.all false
set_option maxRecDepth 100000
set_option maxHeartbeats 4000000
set_option autoImplicit false
namespace Wr
open PySem PySem.Spec PyProof.Rows L2
end Wr
namespace Pg
open PySem PySem.Spec PyProof.Rows L2 Wr
end Pg
set_option Elab.async false
set_option linter.all false
set_option maxRecDepth 100000
set_option maxHeartbeats 4000000
set_option autoImplicit false
namespace Wr
open PySem PySem.Spec PyProof.Rows L2
theorem forT_at {live : List Nat} {t : Tg} {body : Nat → Ds} {di : Di} (N : Nat) (st : Nat → Sg) (hp : Nat → Hs) {s : Sg} {h h1 : Hs} {it : It'} (hi : di s h = .ok it h1) (hl : itLen it h1 = N) (hend : nxt it N (hp N) = some none) (hc : cleanS h1.length live s h1 = some (st 0, hp 0))
    (step : ∀ j, j < N → ∃ v s1 s2 h2, nxt it j (hp j) = some (some v) ∧ setT t v (st j) (hp j) = some s1 ∧ (body h1.length s1 (hp j) = .nx s2 h2 ∨ body h1.length s1 (hp j) = .ct s2 h2) ∧ cleanS h1.length live s2 h2 = some (st (j + 1), hp (j + 1))) :
    dForT live di t body s h = .nx (st N) (hp N) := by
  rw [y_forT, hi, y_foT, hl]
  exact forC_at st hp N hend step (N + 1) 0 s h1 (by omega) (by omega) hc
end Wr
namespace Pg
open PySem PySem.Spec PyProof.Rows L2 Wr
end Pg
set_option Elab.async false
set_option linter.all false
set_option maxRecDepth 100000
set_option maxHeartbeats 4000000
set_option autoImplicit false
namespace Wr
open PySem PySem.Spec PyProof.Rows L2
end Wr
namespace Pg
open PySem PySem.Spec PyProof.Rows L2 Wr
end Pg
set_option Elab.async false
set_option linter.all false
set_option maxRecDepth 100000
set_option maxHeartbeats 4000000
set_option autoImplicit false
namespace Wr
open PySem PySem.Spec PyProof.Rows L2
end Wr
set_option Elab.async false
set_option linter.all false
set_option maxRecDepth 100000
set_option maxHeartbeats 4000000
set_option autoImplicit false
namespace Wr
open PySem PySem.Spec PyProof.Rows L2
/-- the promise with the handled exception at hand -/
def Gd.hotAt (g : Gd) (p : Addr × Obj) : Gd := ⟨g.K, g.G, g.sa, g.ns, g.T, some p⟩
theorem Rh.all {g : Gd} {ρ : List Addr} {H H1 : Hp} {hp : Hs} (R : Rh g ρ H hp) (k : ∀ b o, H b = some o → NT o → H1 b = some o) (t : LamX.Tabs g.T H1) : Sp1 ρ H ρ H1 ∧ Rh g ρ H1 hp := by
  have S : Sp1 ρ H ρ H1 := ⟨List.prefix_refl _, fun _ h => .inl h, fun b o hb _ nt => k b o hb nt, fun b o u hb => k _ _ hb (fun _ z => nomatch z)⟩
  refine ⟨S, R.len, R.nd, t, fun i a x h1 h2 => ?_⟩
  have q := R.obj i a x h1 h2
  have qk : ∀ u, H a = some u → H1 a = some u := fun u e => k _ _ e (q.nt e)
  cases x with
  | lst xs => obtain ⟨vs, e, r⟩ := q; exact ⟨vs, qk _ e, Rvs.step R S _ _ r⟩
  | dK xs => obtain ⟨vs, e, r⟩ := q; exact ⟨vs, qk _ e, Rkv.step R S _ _ r⟩
  | dT xs => obtain ⟨vs, e, r⟩ := q; exact ⟨vs, e.keep qk (fun _ _ z => SqN.step R S z), Rkv.step R S _ _ r⟩
  | dU xs => obtain ⟨vs, e, r⟩ := q; exact ⟨vs, e.keep qk (fun _ _ z => SqN.step R S z), Rkv.step R S _ _ r⟩
  | ins c xs => obtain ⟨dx, vs, e, r⟩ := q; exact ⟨dx, vs, qk _ e, Rkv.step R S _ _ r⟩
  | dF xs => obtain ⟨dx, vs, e, r⟩ := q; exact ⟨dx, vs, qk _ e, Rkv.step R S _ _ r⟩
end Wr
set_option Elab.async false
set_option linter.all false
set_option maxRecDepth 100000
set_option maxHeartbeats 4000000
set_option autoImplicit false
namespace Wr
open PySem PySem.Spec PyProof.Rows L2
end Wr
namespace Wr
open PySem PySem.Spec PyProof.Rows L2
theorem Exn.hot {g : Gd} {mg : Str → Option Value} {cl : List Nat} (E : Exn g mg cl) (p : Addr × Obj) : Exn (g.hotAt p) mg cl := ⟨E.mg, E.own, E.kp, E.sub, E.ty, E.exc, E.val, E.exm, E.kit⟩
end Wr
set_option Elab.async false
set_option linter.all false
set_option maxRecDepth 100000
set_option maxHeartbeats 4000000
set_option autoImplicit false
namespace Wr
open PySem PySem.Spec PyProof.Rows L2
def qMark : Str := Str.mk #[63]
def staysB (p : Nat → Pos) (j : Nat → Nat) : List Stmt := [
  .Assign [.Name "told" (p 0)] (.Call (.Name "deed" (p 1)) [] [] (p 2)) (p 3),
  .If (.UnaryOp .Not (.Call (.Name "isinstance" (p 4)) [.Name "told" (p 5), .Name "list" (p 6)] [] (p 7)) (p 8)) [.Return (some (.Constant (.bool false) (j 0) (p 9))) (p 10)] [] (p 11),
  .Assign [.Name "kept" (p 12)] (.Call (.Name "list" (p 13)) [.Name "told" (p 14)] [] (p 15)) (p 16),
  .Expr (.Call (.Attribute (.Name "told" (p 17)) "append" (p 18)) [.Constant (.str qMark) (j 1) (p 19)] [] (p 20)) (p 21),
  .Return (some (.Compare (.Call (.Name "deed" (p 22)) [] [] (p 23)) [.Eq] [.Name "kept" (p 24)] (p 25))) (p 26)]
def posF (l : List Pos) (d : Pos) : Nat → Pos := fun n => l.getD n d
def natF (a b : Nat) : Nat → Nat := fun n => [a, b].getD n a
def IsStays (st : Stmt) : Prop := ∃ (p0 p1 p2 p3 p4 p5 p6 p7 p8 p9 p10 p11 p12 p13 p14 p15 p16 p17 p18 p19 p20 p21 p22 p23 p24 p25 p26 : Pos) (j0 j1 : Nat), defBody st = staysB (posF [p0, p1, p2, p3, p4, p5, p6, p7, p8, p9, p10, p11, p12, p13, p14, p15, p16, p17, p18, p19, p20, p21, p22, p23, p24, p25, p26] p0) (natF j0 j1) ∧ (p18.endLine == p20.line) = true
theorem IsStays.ex {st : Stmt} (h : IsStays st) : ∃ (p : Nat → Pos) (j : Nat → Nat), defBody st = staysB p j ∧ ((p 18).endLine == (p 20).line) = true := by
  obtain ⟨p0, p1, p2, p3, p4, p5, p6, p7, p8, p9, p10, p11, p12, p13, p14, p15, p16, p17, p18, p19, p20, p21, p22, p23, p24, p25, p26, j0, j1, h1, h2⟩ := h
  exact ⟨_, _, h1, h2⟩
end Wr
set_option Elab.async false
set_option linter.all false
set_option maxRecDepth 100000
set_option maxHeartbeats 4000000
set_option autoImplicit false
namespace Wr
open PySem PySem.Spec PyProof.Rows L2
/-- what a method promises -/
def Okm (P : Program) (w : World) (g : Gd) (mg : Str → Option Value) (base : Heap) (k : Nat) (m : Str) (ps : List Str) (np : Nat) (F : Fn) : Prop :=
  Meth g.K (g.G 8) m (He.ma g.K (g.G 8) m) ∧ ∃ fd, FnOk P w g.K mg base (L2.CX P w) k (He.ma g.K (g.G 8) m) fd ps (spD g np F) ∧ Binds g.K fd ps []
theorem Okm.mono {P : Program} {w : World} {g : Gd} {mg : Str → Option Value} {base : Heap} {j k : Nat} {m : Str} {ps : List Str} {np : Nat} {F : Fn} (h : Okm P w g mg base j m ps np F) (hj : j ≤ k) : Okm P w g mg base k m ps np F := by
  obtain ⟨h1, fd, h2, h3⟩ := h
  exact ⟨h1, fd, h2.mono hj, h3⟩
end Wr
set_option Elab.async false
set_option linter.all false
set_option maxRecDepth 100000
set_option maxHeartbeats 4000000
set_option autoImplicit false
namespace Wr
open PySem PySem.Spec PyProof.Rows L2
end Wr
set_option Elab.async false
set_option linter.all false
set_option maxRecDepth 100000
set_option maxHeartbeats 4000000
set_option autoImplicit false
namespace Wr
open PySem PySem.Spec PyProof.Rows L2
end Wr
set_option Elab.async false
set_option linter.all false
set_option maxRecDepth 100000
set_option maxHeartbeats 4000000
set_option autoImplicit false
namespace Pg
open PySem PySem.Spec PyProof.Rows L2 Wr
end Pg
set_option Elab.async false
set_option linter.all false
set_option maxRecDepth 100000
set_option maxHeartbeats 4000000
set_option autoImplicit false
namespace Wr
open PySem PySem.Spec PyProof.Rows L2
end Wr
namespace Pg
open PySem PySem.Spec PyProof.Rows L2 Wr
end Pg
set_option Elab.async false
set_option linter.all false
set_option maxRecDepth 100000
set_option maxHeartbeats 4000000
set_option autoImplicit false
namespace Wr
open PySem PySem.Spec PyProof.Rows L2
end Wr
namespace Pg
open PySem PySem.Spec PyProof.Rows L2 Wr
end Pg
set_option Elab.async false
set_option linter.all false
set_option maxRecDepth 100000
set_option maxHeartbeats 4000000
set_option autoImplicit false
namespace Wr
open PySem PySem.Spec PyProof.Rows L2
end Wr
namespace Pg
open PySem PySem.Spec PyProof.Rows L2 Wr
abbrev L3 : List Va := [.int 0, .int 1, .int 2]
abbrev SS (at_ : Int) (v : Va) (a b c d e f : Option Va) : Sg := [some .scr, some (.int at_), some v, a, b, c, d, e, f]
end Pg
set_option Elab.async false
set_option linter.all false
set_option maxRecDepth 100000
set_option maxHeartbeats 4000000
set_option autoImplicit false
namespace Pg
open PySem PySem.Spec PyProof.Rows L2 Wr
def C14 : List Va := [.int 0, .int 1, .int 9, .int 10, .int 99, .int 100, .int (-1), .bl true, .non, .str (Str.mk #[49]), sDu, .tup [sDu], .tup [], .tup [.int 0, .int 1, .int 2]]
def C17 (x : Va) : List Va := C14 ++ [.ref 2, .tup [x], .tup [x, x]]
section
variable (ns : List Int) (at_ : Int) (v : Va)
abbrev H4 (PS : List Va) (x : Va) : Hs := [.lst PS, .lst (C17 x), .lst L3, .lst [.ref 2, .tup [x], .tup [x, x]]]
end
end Pg
set_option Elab.async false
set_option linter.all false
set_option maxRecDepth 100000
set_option maxHeartbeats 4000000
set_option autoImplicit false
namespace Pg
open PySem PySem.Spec PyProof.Rows L2 Wr
end Pg
set_option Elab.async false
set_option linter.all false
set_option maxRecDepth 100000
set_option maxHeartbeats 4000000
set_option autoImplicit false
namespace Wr
open PySem PySem.Spec PyProof.Rows L2
end Wr
namespace Pg
open PySem PySem.Spec PyProof.Rows L2 Wr
end Pg
set_option Elab.async false
set_option linter.all false
set_option maxRecDepth 100000
set_option maxHeartbeats 4000000
set_option autoImplicit false
namespace Pg
open PySem PySem.Spec PyProof.Rows L2 Wr
abbrev S5 (v : Va) (k : Int) (a b c : Option Va) : Sg := [some v, some (.int k), a, b, c]
end Pg
set_option Elab.async false
set_option linter.all false
set_option maxRecDepth 100000
set_option maxHeartbeats 4000000
set_option autoImplicit false
namespace Pg
open PySem PySem.Spec PyProof.Rows L2 Wr
end Pg
set_option Elab.async false
set_option linter.all false
set_option maxRecDepth 100000
set_option maxHeartbeats 4000000
set_option autoImplicit false
namespace Pg
open PySem PySem.Spec PyProof.Rows L2 Wr
end Pg
set_option Elab.async false
set_option linter.all false
set_option maxRecDepth 100000
set_option maxHeartbeats 4000000
set_option autoImplicit false
namespace Pg
open PySem PySem.Spec PyProof.Rows L2 Wr
end Pg
set_option Elab.async false
set_option linter.all false
set_option maxRecDepth 100000
set_option maxHeartbeats 4000000
set_option autoImplicit false
namespace Pg
open PySem PySem.Spec PyProof.Rows L2 Wr
def od (i : Nat) (t : Int) : Int := (wl i).getD t.toNat 0
def B6.ren (x : B6) : Nat → B6
  | 0 => ⟨x.a, x.b, x.c, x.d, x.e, x.f⟩
  | 1 => ⟨x.b, x.a, x.e, x.f, x.c, x.d⟩
  | 2 => ⟨x.c, x.d, x.a, x.b, x.f, x.e⟩
  | 3 => ⟨x.e, x.f, x.b, x.a, x.d, x.c⟩
  | 4 => ⟨x.d, x.c, x.f, x.e, x.a, x.b⟩
  | _ => ⟨x.f, x.e, x.d, x.c, x.b, x.a⟩
theorem ren_ok (b : B6) (hb : b.ok) (i : Nat) (hi : i < 6) : (b.ren i).ok := by
  unfold B6.ok B99 at *
  rcases lt6 hi with rfl | rfl | rfl | rfl | rfl | rfl <;> simp only [B6.ren] <;> omega
end Pg
set_option Elab.async false
set_option linter.all false
set_option maxRecDepth 100000
set_option maxHeartbeats 4000000
set_option autoImplicit false
namespace Wr
open PySem PySem.Spec PyProof.Rows L2
def dd : List Nat → List Nat → List Nat
  | acc, [] => acc
  | acc, i :: t => if acc.contains i then dd acc t else dd (acc ++ [i]) t
theorem reach_dd (h : Hs) : ∀ (t acc : List Nat) (n : Nat), t.length < n → (∀ x ∈ t, ∃ o, h[x]? = some o ∧ refsO o = []) → reach n h t acc = dd acc t
  | [], acc, n, hn, _ => by
    cases n with
    | zero => exact absurd hn (Nat.not_lt_zero _)
    | succ n => rfl
  | i :: t, acc, n, hn, hx => by
    cases n with
    | zero => exact absurd hn (Nat.not_lt_zero _)
    | succ n =>
      have ht := fun x h => hx x (List.mem_cons_of_mem _ h)
      obtain ⟨o, e, f⟩ := hx i (List.mem_cons_self ..)
      simp only [List.length_cons] at hn
      unfold reach dd
      by_cases c : acc.contains i = true
      · rw [if_pos c, if_pos c]
        exact reach_dd h t acc n (by omega) ht
      · rw [if_neg c, if_neg c, e]
        simp only [f, List.nil_append]
        exact reach_dd h t (acc ++ [i]) n (by omega) ht
theorem selO_at {m : List Nat} {h : Hs} : ∀ (ks : List Nat) (obs : Hs), ks.map (fun i => h[i]?) = obs.map some → (∀ o ∈ obs, refsO o = []) → selO m h ks = some obs
  | [], [], _, _ => rfl
  | [], _ :: _, e, _ => by cases e
  | _ :: _, [], e, _ => by cases e
  | k :: ks, o :: obs, e, f => by
    rw [List.map_cons, List.map_cons] at e
    injection e with e1 e2
    have e3 := selO_at (m := m) ks obs e2 fun x hx => f x (List.mem_cons_of_mem _ hx)
    simp only [selO, e1, e3, show renO (idx m) o = some o from renO_low _ (nil_low (f o (List.mem_cons_self ..)))]
theorem clean_fg {n0 : Nat} {live : List Nat} {s s1 s2 : Sg} {h obs : Hs} {rs ks : List Nat} (hm : maskS live 0 s = s1) (hr : refsS s1 = rs) (hk : List.range n0 ++ (dd [] rs).filter (fun i => decide (n0 ≤ i)) = ks) (hn : nodupB ks = true) (ho : ks.map (fun i => h[i]?) = obs.map some)
    (hs : renSl (idx ks) s1 = some s2) (ff : ∀ o ∈ obs, refsO o = []) (hl : rs.length < 300) (hin : ∀ x ∈ rs, x ∈ ks) : cleanS n0 live s h = some (s2, obs) := by
  have all : ∀ x ∈ ks, ∃ o, h[x]? = some o ∧ refsO o = [] := fun x hx => by
    have : h[x]? ∈ obs.map some := by rw [← ho]; exact List.mem_map.mpr ⟨x, hx, rfl⟩
    obtain ⟨o, h1, h2⟩ := List.mem_map.mp this
    exact ⟨o, h2.symm, ff o h1⟩
  have ht : (h.take n0).flatMap refsO = [] := List.flatMap_eq_nil_iff.mpr fun o hx => by
    obtain ⟨k, hk', e⟩ := List.mem_take_iff_getElem.mp hx
    have hks : k ∈ ks := by rw [← hk]; exact List.mem_append_left _ (List.mem_range.mpr (by omega))
    obtain ⟨p, e1, e2⟩ := all k hks
    rw [List.getElem?_eq_getElem (by omega)] at e1
    cases e1
    rw [← e]; exact e2
  unfold cleanS
  simp only [hm, hr, ht, List.append_nil]
  rw [reach_dd h rs [] 300 hl (fun x hx => all x (hin x hx)), hk, if_pos hn, hs, selO_at ks obs ho ff]
end Wr
namespace Pg
open PySem PySem.Spec PyProof.Rows L2 Wr
end Pg
set_option Elab.async false
set_option linter.all false
set_option maxRecDepth 100000
set_option maxHeartbeats 4000000
set_option autoImplicit false
namespace K31
open PySem PySem.Spec PyProof.Rows L2 Wr Pg
theorem eqv_bk (x y : List Int) : PyData.eqv (rowD' x) (rowD' y) = decide (x = y) := by
  have q := neInts x y []
  rw [u_ne, u_tdT, u_tdT, tdS_ints, tdS_ints, u_tdTT, u_tdTT, u_eq2f] at q
  have q1 := congrArg (fun o => match o with | some (Va.bl b, _) => b | _ => false) q
  simp only at q1
  have := congrArg (fun b => !b) q1
  simpa [rowD'] using this
theorem any_bk (b : List Int) : ∀ L : List (List Int), b ∈ L → ((L.map rowD').any fun z => PyData.eqv z (rowD' b)) = true
  | [], h => nomatch h
  | x :: L, h => by
    rw [List.map_cons, List.any_cons, eqv_bk]
    rcases List.mem_cons.mp h with e | e
    · subst e; simp
    · rw [any_bk b L e, Bool.or_true]
theorem notIn_bk {h : Hs} {r : Nat} {L : List (List Int)} (hr : h[r]? = some (.lst (L.map bkV))) {b : List Int} (hb : b ∈ L) : kNotIn (bkV b) (.ref r) h = some (.bl false, h) := by
  have e1 : toD h 9 (bkV b) = some (rowD' b) := by
    show toD h 9 (.tup (b.map .int)) = _
    rw [u_tdT, tdS_ints, u_tdTT]; rfl
  have e2 : toD h 9 (.ref r) = some (.list (L.map rowD')) := by
    rw [u_tdR, hr, u_tdL, show L.map bkV = rowsL L from rfl, tdS_rows', u_tdLL]
  unfold kNotIn inD
  rw [e1, e2]
  simp only [any_bk b L hb, Option.map_some]
  rfl
theorem sGood (m : Nat) (hm : m < 5) (b : List Int) (hb : b ∈ bks m) : good (bks m) b = true := List.all_eq_true.mp (List.all_eq_true.mp s4 m (List.mem_range.mpr hm)) b hb
theorem six {L : List (List Int)} {b : List Int} (h : good L b = true) : ∃ x0 x1 x2 x3 x4 x5 : Int, b = [x0, x1, x2, x3, x4, x5] ∧ B99 x0 x1 x2 x3 x4 x5 ∧ [x5, x3, x4, x1, x2, x0] ∈ L ∧ ∀ j < 6, renI j x0 x1 x2 x3 x4 x5 ∈ L := by
  unfold good at h
  split at h
  · rename_i x0 x1 x2 x3 x4 x5
    rw [Bool.and_eq_true, Bool.and_eq_true, decide_eq_true_eq] at h
    exact ⟨x0, x1, x2, x3, x4, x5, rfl, h.1.1, List.contains_iff_mem.mp h.1.2, fun j hj => List.contains_iff_mem.mp (List.all_eq_true.mp h.2 j (List.mem_range.mpr hj))⟩
  · cases h
theorem e18 (m : Nat) (E : List Va) (o b rv tv : Va) (p1 : callD renamed [b, o] [.lst E] = .ok rv [.lst E]) (p2 : callD turned [b] [.lst E] = .ok tv [.lst E]) (n1 : kNotIn rv (.ref 0) [.lst E] = some (.bl false, [.lst E])) (n2 : kNotIn tv (.ref 0) [.lst E] = some (.bl false, [.lst E])) :
    P_law_18 turned renamed 0 (S1 m (some o) (some b)) [.lst E] = .nx (S1 m (some o) (some b)) [.lst E] := by
  unfold P_law_18
  simp (disch := first | omega | (simp only [List.length_cons, List.length_nil] <;> omega) | (with_unfolding_all rfl)) only [u_v0, u_vS, u_c, u_lft, u_op, u_op1, u_op2, u_test, u_tst, u_anil, u_acons, u_ac1, u_ac2, u_tup, u_tu1, u_lst, u_ls1, u_not, u_nt1, u_and, u_and1t, u_and1f, u_andv, u_andv1t, u_andv1f, u_or, u_or1t, u_or1f, u_orv, u_orv1t, u_orv1f, u_notv, u_nv1, u_ife, u_ife1t, u_ife1f, u_ifs, u_ifs1t, u_ifs1f, u_nx, u_expr, u_ex1, u_ret, u_rt1, u_set, u_st1, u_call, u_ca1, u_call0, u_B, u_b1, u_rng, u_rn1, u_ixo, u_ixT, u_ixR, u_ixRl, u_atI, u_ixN, u_kLt, u_kSub, u_kAdd, u_mul, u_mulr, u_addT, u_eq, u_ne, u_lenTup, u_lenRef, u_lenR1, u_g0, u_gS, u_gN, List.length_cons, List.length_nil, List.length_append, List.length_set, List.cons_append, List.nil_append, List.set_cons_zero, List.set_cons_succ, Bool.true_or, Bool.or_true, Bool.false_or, Bool.or_false, Bool.true_and, Bool.and_true, Bool.false_and, Bool.and_false, Bool.not_true, Bool.not_false, if_pos, if_neg, decide_true, decide_false, beq_self_eq_true, Nat.reduceBEq, Int.reduceNeg, Nat.zero_add, Int.zero_add, Int.add_zero, Int.cast_ofNat_Int, Nat.reduceAdd, Nat.reduceSub, Nat.reduceLeDiff, Nat.lt_irrefl, Nat.reduceEqDiff, Int.reduceLT, Int.reduceLE, Int.reduceEq, Int.reduceAdd, Int.reduceSub, Int.reduceMul, Int.reduceToNat, ↓reduceIte, not_false_eq_true, not_true_eq_false, Int.zero_le_ofNat, p1, p2, n1, n2]
theorem f18 (m : Nat) (hm : m < 5) (o : Nat) (ho : o < 6) (b : List Int) (hb : b ∈ bks m) : P_law_18 turned renamed 0 (S1 m (some (wv o)) (some (bkV b))) [.lst (EV m)] = .nx (S1 m (some (wv o)) (some (bkV b))) [.lst (EV m)] := by
  obtain ⟨x0, x1, x2, x3, x4, x5, rfl, h9, ht, hr⟩ := six (sGood m hm b hb)
  have hE : ([.lst (EV m)] : Hs)[0]? = some (.lst ((bks m).map bkV)) := rfl
  refine e18 m (EV m) (wv o) _ (renB o x0 x1 x2 x3 x4 x5) (bkV [x5, x3, x4, x1, x2, x0]) (renamed_ok x0 x1 x2 x3 x4 x5 h9.bok o ho _) (turned_ok x0 x1 x2 x3 x4 x5 h9.bok _) ?_ (notIn_bk hE ht)
  rw [renI_is]
  exact notIn_bk hE (hr o ho)
end K31
set_option Elab.async false
set_option linter.all false
set_option maxRecDepth 100000
set_option maxHeartbeats 0
set_option autoImplicit false
namespace K31
open PySem PySem.Spec PyProof.Rows L2 Wr Pg
def keyB (b : List Int) : NestedKey := .tup (b.map .num)
def incB (b : List Int) (i : Nat) : List Int := b.take i ++ (b.getD i 0 + 1) :: b.drop (i + 1)
def putO (D : Ob) (k : NestedKey) : Ob := match D with
  | .dU kvs => .dU (pK kvs k (.bl true))
  | _ => .dU [(k, .bl true)]
def addI (b : List Int) (D : Ob) (n : Nat) : Ob := (List.range n).foldl (fun D i => putO D (keyB (incB b i))) D
def addD (D : Ob) (b : List Int) : Ob := addI b D 6
def DJ (j : Nat) : Ob := ((bks 3).take j).foldl addD (.dK [])
abbrev SJ (b : Option Va) : Sg := [some .scr, nn, some (.ref 0), b, nn, nn, nn, some (.ref 2), nn, nn, nn, nn, nn]
abbrev SN (b : Va) (i : Nat) : Sg := [some .scr, nn, some (.ref 0), some b, nn, nn, nn, some (.ref 2), some (.int i), nn, nn, nn, nn]
abbrev SI (o : Option Va) : Sg := [some .scr, nn, some (.ref 0), nn, nn, nn, o, nn, nn, nn, nn, nn, nn]
abbrev SE : Sg := [some .scr, nn, some (.ref 0), nn, nn, nn, nn, some (.ref 1), nn, nn, nn, nn, nn]
abbrev SI7 : Sg := [some .scr, nn, some (.ref 0), nn, nn, nn, some (.ref 1), some (.ref 2), nn, nn, nn, nn, nn]
/-- a dict that refers to nothing, so long at most -/
def Tid (n : Nat) (D : Ob) : Prop := D = .dK [] ∨ ∃ kvs, D = .dU kvs ∧ refsK kvs = [] ∧ kvs.length ≤ n
theorem Tid.refs {n : Nat} {D : Ob} (h : Tid n D) : refsO D = [] := by
  rcases h with rfl | ⟨kvs, rfl, h, _⟩
  · rfl
  · exact h
theorem refsK_app : ∀ a b : List (NestedKey × Va), refsK a = [] → refsK b = [] → refsK (a ++ b) = []
  | [], b, _, h => h
  | (k, v) :: a, b, h1, h2 => by
    simp only [refsK, List.append_eq_nil_iff] at h1
    simp only [List.cons_append, refsK, h1.1, refsK_app a b h1.2 h2, List.append_nil]
theorem refsK_map (k : NestedKey) : ∀ a : List (NestedKey × Va), refsK a = [] → refsK (a.map fun kv => if kv.1 = k then (kv.1, (Va.bl true)) else kv) = []
  | [], _ => rfl
  | (j, v) :: a, h => by
    simp only [refsK, List.append_eq_nil_iff] at h
    rw [List.map_cons]
    by_cases e : j = k
    · rw [if_pos e, refsK, refsK_map k a h.2]; rfl
    · rw [if_neg e, refsK, refsK_map k a h.2, h.1]; rfl
theorem put_tid {n : Nat} {D : Ob} (k : NestedKey) (h : Tid n D) : Tid (n + 1) (putO D k) := by
  rcases h with rfl | ⟨kvs, rfl, h, l⟩
  · exact .inr ⟨_, rfl, rfl, by simp⟩
  · refine .inr ⟨pK kvs k (.bl true), rfl, ?_, ?_⟩
    · unfold pK
      split
      · exact refsK_map k kvs h
      · exact refsK_app kvs _ h rfl
    · unfold pK
      split
      · rw [List.length_map]; omega
      · rw [List.length_append]; simp; omega
theorem addI_succ (b : List Int) (D : Ob) (n : Nat) : addI b D (n + 1) = putO (addI b D n) (keyB (incB b n)) := by
  unfold addI
  rw [List.range_succ, List.foldl_append]; rfl
theorem addI_tid {m : Nat} {D : Ob} (b : List Int) (h : Tid m D) : ∀ n : Nat, Tid (m + n) (addI b D n)
  | 0 => h
  | n + 1 => by rw [addI_succ]; exact put_tid _ (addI_tid b h n)
theorem DJ_succ {j : Nat} {b : List Int} (hb : (bks 3)[j]? = some b) : DJ (j + 1) = addD (DJ j) b := by
  unfold DJ
  rw [List.take_succ, hb, List.foldl_append]; rfl
theorem DJ_tid : ∀ j : Nat, Tid (6 * j) (DJ j)
  | 0 => .inl rfl
  | j + 1 => by
    cases hb : (bks 3)[j]? with
    | some b => rw [DJ_succ hb]; exact addI_tid b (DJ_tid j) 6
    | none =>
      have e : DJ (j + 1) = DJ j := by
        unfold DJ
        rw [List.take_succ, hb, Option.toList_none, List.append_nil]
      rw [e]
      rcases DJ_tid j with h | ⟨kvs, h, r, l⟩
      · exact .inl h
      · exact .inr ⟨kvs, h, r, by omega⟩
end K31
set_option Elab.async false
set_option linter.all false
set_option maxRecDepth 100000
set_option maxHeartbeats 0
set_option autoImplicit false
namespace K31
open PySem PySem.Spec PyProof.Rows L2 Wr Pg
theorem w6 : nxT 0 [0, 2, 6] (P_law_6 all_books 0 (S1 4 nn nn) [.lst (EV 4)]) (SI (some (.ref 1))) [.lst (EV 4), .lst (EV 3)] = true := by decide +kernel
end K31
set_option Elab.async false
set_option linter.all false
set_option maxRecDepth 100000
set_option maxHeartbeats 0
set_option autoImplicit false
namespace K31
open PySem PySem.Spec PyProof.Rows L2 Wr Pg
theorem w3 : nxT 0 [0] (P_law_3 0 SE [.lst (EV 4), DJ 56]) SZ [] = true := by decide +kernel
end K31
set_option Elab.async false
set_option linter.all false
set_option maxRecDepth 100000
set_option maxHeartbeats 4000000
set_option autoImplicit false
namespace K31
open PySem PySem.Spec PyProof.Rows L2 Wr Pg
theorem seqN {n0 : Nat} {live : List Nat} {f k : Ds} {s s2 : Sg} {h h2 : Hs} {r : RS} (e : nxT n0 live (f s h) s2 h2 = true) (q : k s2 h2 = r) : dSeqT n0 live f k s h = r := by
  obtain ⟨s1, h1, a, b⟩ := nxT_is e
  exact stepT a b q
theorem cnN {f : Nat → Option Nat} {s s' : Sg} (e : renSl f s = some s') : renSl f (none :: s) = some (none :: s') := by
  simp only [renSl, e]
theorem cnV {f : Nat → Option Nat} {v w : Va} {s s' : Sg} (g : ren f v = some w) (e : renSl f s = some s') : renSl f (some v :: s) = some (some w :: s') := by
  simp only [renSl, g, e]
theorem refs_bkV (b : List Int) : refsV (bkV b) = [] := by
  show refsVs (b.map Va.int) = []
  induction b with
  | nil => rfl
  | cons i b ih => rw [List.map_cons, refsVs, ih]; rfl
theorem refs_bk : ∀ l : List (List Int), refsVs (l.map bkV) = []
  | [] => rfl
  | b :: l => by rw [List.map_cons, refsVs, refs_bk l, refs_bkV]; rfl
theorem refs_EV (m : Nat) : refsVs (EV m) = [] := refs_bk _
section
variable {A B : List Va} {D : Ob} (fa : refsVs A = []) (fb : refsVs B = [])
include fa fb
theorem all3 (fd : refsO D = []) : ∀ o ∈ ([.lst A, .lst B, D] : Hs), refsO o = [] := by
  intro o ho
  simp only [List.mem_cons, List.not_mem_nil, or_false] at ho
  rcases ho with rfl | rfl | rfl
  · exact fa
  · exact fb
  · exact fd
theorem clean3 {live : List Nat} {s s2 : Sg} {rs : List Nat} (fd : refsO D = []) (hm : maskS live 0 s = s2) (ha : refsS s2 = rs) (hk : (dd [] rs).filter (fun i => decide (3 ≤ i)) = []) (hs : renSl (idx [0, 1, 2]) s2 = some s2) (hl : rs.length < 300) (hi : ∀ x ∈ rs, x ∈ [0, 1, 2]) :
    cleanS 3 live s [.lst A, .lst B, D] = some (s2, [.lst A, .lst B, D]) :=
  clean_fg (rs := rs) (ks := [0, 1, 2]) hm ha (by rw [hk]; rfl) rfl rfl hs (all3 fa fb fd) hl hi
end
theorem keyN_b (x0 x1 x2 x3 x4 x5 : Int) : keyN (bkV [x0, x1, x2, x3, x4, x5]) = some (keyB [x0, x1, x2, x3, x4, x5]) := rfl
theorem put_is {n : Nat} {A B : List Va} {D : Ob} (hn : n < 1000) (h : Tid n D) (x0 x1 x2 x3 x4 x5 : Int) : kPutN (.ref 2) (bkV [x0, x1, x2, x3, x4, x5]) (.bl true) [.lst A, .lst B, D] = some [.lst A, .lst B, putO D (keyB [x0, x1, x2, x3, x4, x5])] := by
  rcases h with rfl | ⟨kvs, rfl, _, l⟩
  · unfold kPutN
    rw [keyN_b]; rfl
  · unfold kPutN
    rw [keyN_b]
    show (if decide (kvs.length < 1000) = true then _ else _) = _
    rw [if_pos (decide_eq_true (by omega))]; rfl
theorem key_is (x0 x1 x2 x3 x4 x5 : Int) (i : Nat) (hi : i < 6) (h : Hs) : (dOp kAdd (dOp kAdd (dSl (dVar 3) oNone (oSome (dVar 8))) (dTup (aCons (dOp kAdd (dOp kIxU (dVar 3) (dVar 8)) (dC (.int 1))) aNil))) (dSl (dVar 3) (oSome (dOp kAdd (dVar 8) (dC (.int 1)))) oNone)) (SN (bkV [x0, x1, x2, x3, x4, x5]) i) h = .ok (bkV (incB [x0, x1, x2, x3, x4, x5] i)) h := by
  rcases lt6 hi with rfl | rfl | rfl | rfl | rfl | rfl <;> kernel_rfl
theorem inc_six (x0 x1 x2 x3 x4 x5 : Int) (i : Nat) (hi : i < 6) : ∃ y0 y1 y2 y3 y4 y5 : Int, incB [x0, x1, x2, x3, x4, x5] i = [y0, y1, y2, y3, y4, y5] := by
  rcases lt6 hi with rfl | rfl | rfl | rfl | rfl | rfl <;> exact ⟨_, _, _, _, _, _, rfl⟩
theorem e1 {n : Nat} {A B : List Va} {D : Ob} (hn : n < 1000) (h : Tid n D) (x0 x1 x2 x3 x4 x5 : Int) (i : Nat) (hi : i < 6) (n0 : Nat) :
    P_law_1 n0 (SN (bkV [x0, x1, x2, x3, x4, x5]) i) [.lst A, .lst B, D] = .nx (SN (bkV [x0, x1, x2, x3, x4, x5]) i) [.lst A, .lst B, putO D (keyB (incB [x0, x1, x2, x3, x4, x5] i))] := by
  have k := key_is x0 x1 x2 x3 x4 x5 i hi [.lst A, .lst B, D]
  obtain ⟨y0, y1, y2, y3, y4, y5, e⟩ := inc_six x0 x1 x2 x3 x4 x5 i hi
  have p := put_is (A := A) (B := B) hn h y0 y1 y2 y3 y4 y5
  rw [← e] at p
  have v : (dC (.bl true)) (SN (bkV [x0, x1, x2, x3, x4, x5]) i) [.lst A, .lst B, D] = .ok (.bl true) [.lst A, .lst B, D] := rfl
  have o : (dVar 7) (SN (bkV [x0, x1, x2, x3, x4, x5]) i) [.lst A, .lst B, D] = .ok (.ref 2) [.lst A, .lst B, D] := rfl
  unfold P_law_1
  rw [u_put, v, u_pu1, o, u_pu2, k, u_pu3, p]
  rfl
theorem e2 {n : Nat} {A B : List Va} {D : Ob} (fa : refsVs A = []) (fb : refsVs B = []) (hn : n < 900) (h : Tid n D) (x0 x1 x2 x3 x4 x5 : Int) :
    P_law_2 3 (SJ (some (bkV [x0, x1, x2, x3, x4, x5]))) [.lst A, .lst B, D] = .nx (SJ (some (bkV [x0, x1, x2, x3, x4, x5]))) [.lst A, .lst B, addD D [x0, x1, x2, x3, x4, x5]] := by
  have rb := refs_bkV [x0, x1, x2, x3, x4, x5]
  have cl : ∀ (s : Sg) (E : Ob), refsO E = [] → maskS [0, 2, 3, 7] 0 s = SJ (some (bkV [x0, x1, x2, x3, x4, x5])) → cleanS 3 [0, 2, 3, 7] s [.lst A, .lst B, E] = some (SJ (some (bkV [x0, x1, x2, x3, x4, x5])), [.lst A, .lst B, E]) := fun s E fe hm =>
    clean3 (rs := [0, 2]) fa fb fe hm rfl rfl rfl (by decide) (by decide)
  unfold P_law_2
  refine forT_rng (h1 := [.lst A, .lst B, D]) 6 (fun _ => SJ (some (bkV [x0, x1, x2, x3, x4, x5]))) (fun j => [.lst A, .lst B, addI [x0, x1, x2, x3, x4, x5] D j]) rfl (cl _ _ h.refs rfl) fun j hj => ?_
  have t := addI_tid [x0, x1, x2, x3, x4, x5] h j
  refine ⟨SN (bkV [x0, x1, x2, x3, x4, x5]) j, _, _, rfl, .inl (e1 (by omega) t x0 x1 x2 x3 x4 x5 j hj 3), ?_⟩
  rw [← addI_succ]
  exact cl _ _ (addI_tid [x0, x1, x2, x3, x4, x5] h (j + 1)).refs rfl
theorem it4 (a b : List Va) (c : Ob) : dIt (dVar 6) SI7 [.lst a, .lst b, c] = .ok (.lst 1) [.lst a, .lst b, c] := rfl
theorem len4 (a b : List Va) (c : Ob) : itLen (.lst 1) [.lst a, .lst b, c] = b.length := rfl
theorem nx4 (a b : List Va) (c : Ob) (n : Nat) : nxt (.lst 1) n [.lst a, .lst b, c] = some b[n]? := rfl
theorem set4 (v : Va) (h : Hs) : setT (.nm 3) v (SJ nn) h = some (SJ (some v)) := rfl
theorem wl : (bks 3).length = 56 := by decide +kernel
theorem w4 {A : List Va} (fa : refsVs A = []) : P_law_4 0 SI7 [.lst A, .lst (EV 3), .dK []] = .nx (SJ nn) [.lst A, .lst (EV 3), DJ 56] := by
  have fb := refs_EV 3
  have cl : ∀ (s : Sg) (E : Ob), refsO E = [] → maskS [0, 2, 7] 0 s = SJ nn → cleanS 3 [0, 2, 7] s [.lst A, .lst (EV 3), E] = some (SJ nn, [.lst A, .lst (EV 3), E]) := fun s E fe hm =>
    clean3 (rs := [0, 2]) fa fb fe hm rfl rfl rfl (by decide) (by decide)
  have le : (EV 3).length = 56 := by unfold EV; rw [List.length_map, wl]
  unfold P_law_4
  refine forT_at (it := .lst 1) (h1 := [.lst A, .lst (EV 3), .dK []]) 56 (fun _ => SJ nn) (fun j => [.lst A, .lst (EV 3), DJ j]) (it4 A (EV 3) (.dK [])) ((len4 A (EV 3) (.dK [])).trans le) ?_ (cl _ _ rfl rfl) fun j hj => ?_
  · exact (nx4 A (EV 3) (DJ 56) 56).trans (by rw [List.getElem?_eq_none (by rw [le]; exact Nat.le_refl _)])
  · have hj' : j < (bks 3).length := by rw [wl]; exact hj
    have hb : (bks 3)[j]? = some (bks 3)[j] := List.getElem?_eq_getElem hj'
    have hv : (EV 3)[j]? = some (bkV (bks 3)[j]) := by
      unfold EV
      rw [List.getElem?_map, hb]; rfl
    have hg := sGood 3 (by omega) _ (List.getElem_mem hj')
    have t := DJ_tid j
    have d := DJ_succ hb
    have t2 := DJ_tid (j + 1)
    generalize (bks 3)[j] = b at *
    obtain ⟨x0, x1, x2, x3, x4, x5, rfl, _⟩ := six hg
    refine ⟨bkV [x0, x1, x2, x3, x4, x5], SJ (some (bkV [x0, x1, x2, x3, x4, x5])), _, _, (nx4 A (EV 3) (DJ j) j).trans (by rw [hv]), set4 _ _, .inl (e2 fa fb (by omega) t x0 x1 x2 x3 x4 x5), ?_⟩
    show cleanS 3 [0, 2, 7] _ [.lst A, .lst (EV 3), addD (DJ j) [x0, x1, x2, x3, x4, x5]] = some (SJ nn, [.lst A, .lst (EV 3), DJ (j + 1)])
    rw [← d]
    exact cl _ _ t2.refs rfl
theorem if16 (f : Ds) (h : Hs) : dIfS (dTest (dOp kGt (dVar 1) (dC (.int 0)))) f dNx (S1 4 nn nn) h = f (S1 4 nn nn) h := rfl
theorem w7 (A B : List Va) : dSet 7 dNewD (SI (some (.ref 1))) [.lst A, .lst B] = .nx SI7 [.lst A, .lst B, .dK []] := rfl
theorem w8 {A B : List Va} (fa : refsVs A = []) (fb : refsVs B = []) : cleanS 0 [0, 2, 6, 7] SI7 [.lst A, .lst B, .dK []] = some (SI7, [.lst A, .lst B, .dK []]) :=
  clean_fg (rs := [0, 1, 2]) (ks := [0, 1, 2]) rfl rfl rfl rfl rfl rfl (all3 fa fb rfl) (by decide) (by decide)
theorem w9 {A B : List Va} {D : Ob} (fa : refsVs A = []) (fd : refsO D = []) : cleanS 0 [0, 2, 7] (SJ nn) [.lst A, .lst B, D] = some (SE, [.lst A, D]) :=
  clean_fg (rs := [0, 2]) (ks := [0, 2]) rfl rfl rfl rfl rfl rfl (fun o ho => by
    simp only [List.mem_cons, List.not_mem_nil, or_false] at ho
    rcases ho with rfl | rfl
    · exact fa
    · exact fd) (by decide) (by decide)
theorem e7 : P_law_7 all_books 0 (S1 4 nn nn) [.lst (EV 4)] = P_law_3 0 SE [.lst (EV 4), DJ 56] := by
  have fa := refs_EV 4
  have fb := refs_EV 3
  unfold P_law_7
  refine seqN w6 ?_
  unfold P_law_5
  refine stepT (w7 _ _) (w8 fa fb) ?_
  refine stepT (w4 fa) (w9 fa (DJ_tid 56).refs) ?_
  exact Eq.refl _
theorem i16_4 : i16 4 = true := by
  unfold i16
  have e : P_law_16 all_books 0 (S1 4 nn nn) [.lst (EV 4)] = P_law_3 0 SE [.lst (EV 4), DJ 56] := by
    unfold P_law_16
    exact (if16 _ _).trans e7
  rw [e]
  exact w3
end K31
set_option Elab.async false
set_option linter.all false
set_option maxRecDepth 100000
set_option maxHeartbeats 4000000
set_option autoImplicit false
namespace K31
open PySem PySem.Spec PyProof.Rows L2 Wr Pg
theorem f28 (m : Nat) (hm : m < 5) : i28 m = true := by
  have h := k1
  simp only [Bool.and_eq_true] at h
  obtain ⟨⟨⟨a, b⟩, c⟩, d⟩ := h
  rcases (by omega : m = 0 ∨ m = 1 ∨ m = 2 ∨ m = 3 ∨ m = 4) with rfl | rfl | rfl | rfl | rfl
  · exact a
  · exact b
  · exact c
  · exact d
  · exact k6
theorem f26 (m : Nat) (hm : m < 5) : i26 m = true := by
  have h := k2
  simp only [Bool.and_eq_true] at h
  obtain ⟨⟨a, b⟩, c⟩ := h
  rcases (by omega : m = 0 ∨ m = 1 ∨ m = 2 ∨ m = 3 ∨ m = 4) with rfl | rfl | rfl | rfl | rfl
  · exact a
  · exact b
  · exact c
  · exact k3
  · exact k7
theorem f24 (m : Nat) (hm : m < 5) : i24 m = true := by
  have h := k4
  simp only [Bool.and_eq_true] at h
  obtain ⟨⟨⟨a, b⟩, c⟩, d⟩ := h
  rcases (by omega : m = 0 ∨ m = 1 ∨ m = 2 ∨ m = 3 ∨ m = 4) with rfl | rfl | rfl | rfl | rfl
  · exact a
  · exact b
  · exact c
  · exact d
  · exact k8
theorem f16 (m : Nat) (hm : m < 5) : i16 m = true := by
  have h := k5
  simp only [Bool.and_eq_true] at h
  obtain ⟨⟨a, b⟩, c⟩ := h
  rcases (by omega : m = 0 ∨ m = 1 ∨ m = 2 ∨ m = 3 ∨ m = 4) with rfl | rfl | rfl | rfl | rfl
  · exact a
  · exact b
  · exact c
  · exact k9
  · exact i16_4
theorem pos (m : Nat) (hm : m < 5) : 0 < (bks m).length := by
  rcases (by omega : m = 0 ∨ m = 1 ∨ m = 2 ∨ m = 3 ∨ m = 4) with rfl | rfl | rfl | rfl | rfl <;> decide +kernel
theorem clean0 {live : List Nat} {s s2 : Sg} {h : Hs} {ys : List Va} (hm : maskS live 0 s = s2) (hk : h[0]? = some (.lst ys)) (fy : refsVs ys = []) (ha : refsS s2 = [0]) (hs : renSl (idx [0]) s2 = some s2) : cleanS 0 live s h = some (s2, [.lst ys]) :=
  clean_fg (rs := [0]) (ks := [0]) hm ha rfl rfl (by simp [hk]) hs (fun o ho => by rw [List.mem_singleton.mp ho]; exact fy) (by simp) (by simp)
section
variable (ns : List Int)
theorem e29 (m : Nat) (pm : ∀ h, callD (_law_pick ns) [.scr, .int 0, .int 5] h = .ok (.int m) h) : P_law_29 (_law_pick ns) 0 [some .scr, nn, nn, nn, nn, nn, nn, nn, nn, nn, nn, nn, nn] [] = .nx (S0 m) [] := by
  unfold P_law_29
  have p := pm []
  simp (disch := first | omega | (simp only [List.length_cons, List.length_nil] <;> omega) | (with_unfolding_all rfl)) only [u_v0, u_vS, u_c, u_lft, u_op, u_op1, u_op2, u_test, u_tst, u_anil, u_acons, u_ac1, u_ac2, u_tup, u_tu1, u_lst, u_ls1, u_not, u_nt1, u_and, u_and1t, u_and1f, u_andv, u_andv1t, u_andv1f, u_or, u_or1t, u_or1f, u_orv, u_orv1t, u_orv1f, u_notv, u_nv1, u_ife, u_ife1t, u_ife1f, u_ifs, u_ifs1t, u_ifs1f, u_nx, u_expr, u_ex1, u_ret, u_rt1, u_set, u_st1, u_call, u_ca1, u_call0, u_B, u_b1, u_rng, u_rn1, u_ixo, u_ixT, u_ixR, u_ixRl, u_atI, u_ixN, u_kLt, u_kSub, u_kAdd, u_mul, u_mulr, u_addT, u_eq, u_ne, u_lenTup, u_lenRef, u_lenR1, u_g0, u_gS, u_gN, List.length_cons, List.length_nil, List.length_append, List.length_set, List.cons_append, List.nil_append, List.set_cons_zero, List.set_cons_succ, Bool.true_or, Bool.or_true, Bool.false_or, Bool.or_false, Bool.true_and, Bool.and_true, Bool.false_and, Bool.and_false, Bool.not_true, Bool.not_false, if_pos, if_neg, decide_true, decide_false, beq_self_eq_true, Nat.reduceBEq, Int.reduceNeg, Nat.zero_add, Int.zero_add, Int.add_zero, Int.cast_ofNat_Int, Nat.reduceAdd, Nat.reduceSub, Nat.reduceLeDiff, Nat.lt_irrefl, Nat.reduceEqDiff, Int.reduceLT, Int.reduceLE, Int.reduceEq, Int.reduceAdd, Int.reduceSub, Int.reduceMul, Int.reduceToNat, ↓reduceIte, not_false_eq_true, not_true_eq_false, Int.zero_le_ofNat, p]
theorem e22 (m o : Nat) (ho : o < 6) (E : List Va) (po : ∀ h, callD (_law_pick ns) [.scr, .int 1, .int 6] h = .ok (.int o) h) :
    P_law_22 (_law_pick ns) _law_wishes 0 (S1 m nn nn) [.lst E] = .nx (S1 m (some (wv o)) nn) [.lst E, .lst [wv 0, wv 1, wv 2, wv 3, wv 4, wv 5]] := by
  unfold P_law_22
  have w := wishes_ok [.lst E]
  have a := atW o ho
  generalize ew : [wv 0, wv 1, wv 2, wv 3, wv 4, wv 5] = WL at w a ⊢
  have p := po [.lst E, .lst WL]
  generalize wv o = ov at a ⊢
  simp (disch := first | omega | (simp only [List.length_cons, List.length_nil] <;> omega) | (with_unfolding_all rfl)) only [u_v0, u_vS, u_c, u_lft, u_op, u_op1, u_op2, u_test, u_tst, u_anil, u_acons, u_ac1, u_ac2, u_tup, u_tu1, u_lst, u_ls1, u_not, u_nt1, u_and, u_and1t, u_and1f, u_andv, u_andv1t, u_andv1f, u_or, u_or1t, u_or1f, u_orv, u_orv1t, u_orv1f, u_notv, u_nv1, u_ife, u_ife1t, u_ife1f, u_ifs, u_ifs1t, u_ifs1f, u_nx, u_expr, u_ex1, u_ret, u_rt1, u_set, u_st1, u_call, u_ca1, u_call0, u_B, u_b1, u_rng, u_rn1, u_ixo, u_ixT, u_ixR, u_ixRl, u_ixN, u_kLt, u_kSub, u_kAdd, u_mul, u_mulr, u_addT, u_eq, u_ne, u_lenTup, u_lenRef, u_lenR1, u_g0, u_gS, u_gN, List.length_cons, List.length_nil, List.length_append, List.length_set, List.cons_append, List.nil_append, List.set_cons_zero, List.set_cons_succ, Bool.true_or, Bool.or_true, Bool.false_or, Bool.or_false, Bool.true_and, Bool.and_true, Bool.false_and, Bool.and_false, Bool.not_true, Bool.not_false, if_pos, if_neg, decide_true, decide_false, beq_self_eq_true, Nat.reduceBEq, Int.reduceNeg, Nat.zero_add, Int.zero_add, Int.add_zero, Int.cast_ofNat_Int, Nat.reduceAdd, Nat.reduceSub, Nat.reduceLeDiff, Nat.lt_irrefl, Nat.reduceEqDiff, Int.reduceLT, Int.reduceLE, Int.reduceEq, Int.reduceAdd, Int.reduceSub, Int.reduceMul, Int.reduceToNat, ↓reduceIte, not_false_eq_true, not_true_eq_false, Int.zero_le_ofNat, w, p, a]
theorem e20 (m i : Nat) (E : List Va) (o v : Va) (hv : L2.atI E (i : Int) = some v) (pi : ∀ h, callD (_law_pick ns) [.scr, .int 2, .int E.length] h = .ok (.int i) h) :
    P_law_20 (_law_pick ns) 0 (S1 m (some o) nn) [.lst E] = .nx (S1 m (some o) (some v)) [.lst E] := by
  unfold P_law_20
  have p := pi [.lst E]
  simp (disch := first | omega | (simp only [List.length_cons, List.length_nil] <;> omega) | (with_unfolding_all rfl)) only [u_v0, u_vS, u_c, u_lft, u_op, u_op1, u_op2, u_test, u_tst, u_anil, u_acons, u_ac1, u_ac2, u_tup, u_tu1, u_lst, u_ls1, u_not, u_nt1, u_and, u_and1t, u_and1f, u_andv, u_andv1t, u_andv1f, u_or, u_or1t, u_or1f, u_orv, u_orv1t, u_orv1f, u_notv, u_nv1, u_ife, u_ife1t, u_ife1f, u_ifs, u_ifs1t, u_ifs1f, u_nx, u_expr, u_ex1, u_ret, u_rt1, u_set, u_st1, u_call, u_ca1, u_call0, u_B, u_b1, u_rng, u_rn1, u_ixo, u_ixT, u_ixR, u_ixRl, u_ixN, u_kLt, u_kSub, u_kAdd, u_mul, u_mulr, u_addT, u_eq, u_ne, u_lenTup, u_lenRef, u_lenR1, u_g0, u_gS, u_gN, List.length_cons, List.length_nil, List.length_append, List.length_set, List.cons_append, List.nil_append, List.set_cons_zero, List.set_cons_succ, Bool.true_or, Bool.or_true, Bool.false_or, Bool.or_false, Bool.true_and, Bool.and_true, Bool.false_and, Bool.and_false, Bool.not_true, Bool.not_false, if_pos, if_neg, decide_true, decide_false, beq_self_eq_true, Nat.reduceBEq, Int.reduceNeg, Nat.zero_add, Int.zero_add, Int.add_zero, Int.cast_ofNat_Int, Nat.reduceAdd, Nat.reduceSub, Nat.reduceLeDiff, Nat.lt_irrefl, Nat.reduceEqDiff, Int.reduceLT, Int.reduceLE, Int.reduceEq, Int.reduceAdd, Int.reduceSub, Int.reduceMul, Int.reduceToNat, ↓reduceIte, not_false_eq_true, not_true_eq_false, Int.zero_le_ofNat, p, hv]
theorem e14 (g : Nat) (pg : ∀ h, callD (_law_pick ns) [.scr, .int 3, .int 40] h = .ok (.int g) h) : P_law_14 (_law_pick ns) 0 SZ [] = .nx [some .scr, nn, nn, nn, nn, nn, nn, nn, nn, some (.int g), nn, nn, nn] [] := by
  unfold P_law_14
  have p := pg []
  simp (disch := first | omega | (simp only [List.length_cons, List.length_nil] <;> omega) | (with_unfolding_all rfl)) only [u_v0, u_vS, u_c, u_lft, u_op, u_op1, u_op2, u_test, u_tst, u_anil, u_acons, u_ac1, u_ac2, u_tup, u_tu1, u_lst, u_ls1, u_not, u_nt1, u_and, u_and1t, u_and1f, u_andv, u_andv1t, u_andv1f, u_or, u_or1t, u_or1f, u_orv, u_orv1t, u_orv1f, u_notv, u_nv1, u_ife, u_ife1t, u_ife1f, u_ifs, u_ifs1t, u_ifs1f, u_nx, u_expr, u_ex1, u_ret, u_rt1, u_set, u_st1, u_call, u_ca1, u_call0, u_B, u_b1, u_rng, u_rn1, u_ixo, u_ixT, u_ixR, u_ixRl, u_atI, u_ixN, u_kLt, u_kSub, u_kAdd, u_mul, u_mulr, u_addT, u_eq, u_ne, u_lenTup, u_lenRef, u_lenR1, u_g0, u_gS, u_gN, List.length_cons, List.length_nil, List.length_append, List.length_set, List.cons_append, List.nil_append, List.set_cons_zero, List.set_cons_succ, Bool.true_or, Bool.or_true, Bool.false_or, Bool.or_false, Bool.true_and, Bool.and_true, Bool.false_and, Bool.and_false, Bool.not_true, Bool.not_false, if_pos, if_neg, decide_true, decide_false, beq_self_eq_true, Nat.reduceBEq, Int.reduceNeg, Nat.zero_add, Int.zero_add, Int.add_zero, Int.cast_ofNat_Int, Nat.reduceAdd, Nat.reduceSub, Nat.reduceLeDiff, Nat.lt_irrefl, Nat.reduceEqDiff, Int.reduceLT, Int.reduceLE, Int.reduceEq, Int.reduceAdd, Int.reduceSub, Int.reduceMul, Int.reduceToNat, ↓reduceIte, not_false_eq_true, not_true_eq_false, Int.zero_le_ofNat, p]
theorem body {m o i g : Nat} {E : List Va} {bv : Va} (pm : ∀ h, callD (_law_pick ns) [.scr, .int 0, .int 5] h = .ok (.int m) h) (ho : o < 6) (po : ∀ h, callD (_law_pick ns) [.scr, .int 1, .int 6] h = .ok (.int o) h)
    (hv : L2.atI E (i : Int) = some bv) (pi : ∀ h, callD (_law_pick ns) [.scr, .int 2, .int E.length] h = .ok (.int i) h) (pg : ∀ h, callD (_law_pick ns) [.scr, .int 3, .int 40] h = .ok (.int g) h) (rE : refsVs E = []) (rb : refsV bv = [])
    (c28 : nxT 0 [0, 1, 2] (dSet 2 (dCall all_books 1 (aCons (dVar 1) aNil)) (S0 m) []) (S1 m nn nn) [.lst E] = true)
    (c26 : nxT 0 [0, 1, 2] (P_law_26 how_many_books 0 (S1 m nn nn) [.lst E]) (S1 m nn nn) [.lst E] = true)
    (c24 : nxT 0 [0, 1, 2] (P_law_24 size is_book 0 (S1 m nn nn) [.lst E]) (S1 m nn nn) [.lst E] = true)
    (c18 : P_law_18 turned renamed 0 (S1 m (some (wv o)) (some bv)) [.lst E] = .nx (S1 m (some (wv o)) (some bv)) [.lst E])
    (c16 : nxT 0 [0] (P_law_16 all_books 0 (S1 m nn nn) [.lst E]) SZ [] = true) {h' : Hs}
    (c13 : r13 g = .rt (.bl true) h') :
    P_law_30 (_law_pick ns) all_books how_many_books size is_book _law_wishes turned renamed 0 [some .scr, nn, nn, nn, nn, nn, nn, nn, nn, nn, nn, nn, nn] [] = .rt (.bl true) h' := by
  unfold P_law_30
  refine stepT (e29 ns m pm) rfl ?_
  unfold P_law_28
  refine seqN c28 ?_
  unfold P_law_27
  refine seqN c26 ?_
  unfold P_law_25
  refine seqN c24 ?_
  unfold P_law_23
  refine stepT (e22 ns m o ho E po) (clean0 (s2 := S1 m (some (wv o)) nn) rfl rfl rE (by simp [refsS, refsV, refs_wv]) (cnV rfl (cnV rfl (cnV rfl (cnN (cnV (ren_flat _ (refs_wv o)) rfl)))))) ?_
  unfold P_law_21
  refine stepT (e20 ns m i E (wv o) bv hv pi) (clean0 (s2 := S1 m (some (wv o)) (some bv)) rfl rfl rE (by simp [refsS, refsV, refs_wv, rb]) (cnV rfl (cnV rfl (cnV rfl (cnN (cnV (ren_flat _ (refs_wv o)) (cnV (ren_flat _ rb) rfl))))))) ?_
  unfold P_law_19
  refine stepT c18 (clean0 (s2 := S1 m nn nn) rfl rfl rE (by simp [refsS, refsV]) rfl) ?_
  unfold P_law_17
  refine seqN c16 ?_
  unfold P_law_15
  refine stepT (e14 ns g pg) rfl ?_
  exact c13
theorem fin {h' : Hs} (e : P_law_30 (_law_pick ns) all_books how_many_books size is_book _law_wishes turned renamed 0 [some .scr, nn, nn, nn, nn, nn, nn, nn, nn, nn, nn, nn, nn] [] = .rt (.bl true) h') : ∃ h, law ns [.scr] [] = .ok (.bl true) h := by
  show ∃ h, compact 0 (toRs (P_law_30 (_law_pick ns) all_books how_many_books size is_book _law_wishes turned renamed 0 [some .scr, nn, nn, nn, nn, nn, nn, nn, nn, nn, nn, nn, nn] [])) = _
  rw [e]
  exact compact_bl true h'
theorem EV_len (m : Nat) : (EV m).length = (bks m).length := by unfold EV; rw [List.length_map]
theorem EV_at (m i : Nat) (hi : i < (bks m).length) : L2.atI (EV m) (i : Int) = some (bkV ((bks m)[i])) := by
  unfold EV
  rw [atI_nat _ _ (by rw [List.length_map]; exact hi), List.getElem?_map, List.getElem?_eq_getElem hi]
  rfl
theorem ok (hl : ns.length ≤ 63) : ∃ h, law ns [.scr] [] = .ok (.bl true) h := by
  obtain ⟨m, hm, pm⟩ := pickN ns 0 5 (by omega) (by omega)
  obtain ⟨o, ho, po⟩ := pickN ns 1 6 (by omega) (by omega)
  have hm5 : m < 5 := by omega
  have ho6 : o < 6 := by omega
  obtain ⟨g, hg, pg⟩ := pickN ns 3 40 (by omega) (by omega)
  obtain ⟨i, hi, pi⟩ := pickN ns 2 (EV m).length (by omega) (by rw [EV_len]; have := pos m hm5; omega)
  have hil : i < (bks m).length := by rw [← EV_len]; omega
  obtain ⟨h', c13⟩ := g_is g (by omega)
  exact fin ns (body ns pm ho6 po (EV_at m i hil) pi pg (refs_EV m) (refs_bkV _) (f28 m hm5) (f26 m hm5) (f24 m hm5) (f18 m hm5 o ho6 _ (List.getElem_mem hil)) (f16 m hm5) c13)
end
end K31
theorem PySem.Challenge.cw_wishrules_k31_whole_books_counted_holds : PySem.Challenge.rw_wishrules_k31_whole_books_counted.Holds :=
  K31.holds K31.ok
