import PyProof.Rows.All
import Wide.All
import OpenK.AllK
import Wide.FinOn
import HandS.ForMost
import HandS.ForExc
import HandS.CallSlots
import HandS.Lambda
import HandS.ExcCtx
import HandS.SuiteRaise
import HandS.HotCalls
import KE.KeyNested
import HandS.Iter
import KE.GoesNew
import HandS.Deep
import HandS.IsInst
import HandS.TupAny
import HandS.TupMul
import HandS.Style
import HandS.Strs
import PyProof.SeqIndex
import HandS.SetFor
import HandS.SortInts
import HandS.Wide
import HandS.Defaults
import HandS.HeadHook2
import HandS.HeadHook4
import HandS.Ends
import HandS.Head0
import HandS.Head1
import HandS.Head2
import HandS.HeadEnd
import PyProof.Rows.SortShellAny
import KE.GoesEnum
import KE.KTupSum
import KE.DataMinMax
import HandS.TupSets
import HandS.TupLe
import HandS.ExcOwn
import HandS.ExcIs
import KE.KDictCopyH
import KE.KDictList
import PyProof.DictUpdate
import HandS.EndTab
import HandS.HeadWalk
import KE.KNestM
import HandS.Text
import PyProof.StrOps2
import PySem.Challenge.RW_wishrules_k43_whole_poll_texts_spoilt
set_option Elab.async false
set_option linter.all false
set_option maxRecDepth 100000
set_option maxHeartbeats 4000000
set_option autoImplicit false
namespace Wr
open PySem PySem.Spec PyProof.Rows L2
inductive Va where
  | non | bl (b : Bool) | int (i : Int) | str (x : Str) | ty (n : String) | gl (n : Nat) | scr | exc (c : Nat) | ref (i : Nat) | tup (xs : List Va)
inductive Ob where
  | lst (xs : List Va)
  | dK (kvs : List (Key × Va))
  | dT (kvs : List (List Key × Va))
  | dU (kvs : List (NestedKey × Va))
  | dF (kvs : List (Key × Va))
  | ins (c : Nat) (fs : List (Str × Va))
abbrev Sg := List (Option Va)
abbrev Hs := List Ob
inductive Rs (α : Type) where
  | ok (a : α) (h : Hs) | ex (c : Nat) (h : Hs) | no
inductive RS where
  | nx (s : Sg) (h : Hs) | rt (v : Va) (h : Hs) | bk (s : Sg) (h : Hs) | ct (s : Sg) (h : Hs) | ex (c : Nat) (s : Sg) (h : Hs) | no
abbrev De := Sg → Hs → Rs Va
abbrev Dt := Sg → Hs → Rs Bool
abbrev Da := Sg → Hs → Rs (List Va)
abbrev Ds := Sg → Hs → RS
def Rs.bind {α β : Type} (r : Rs α) (k : α → Hs → Rs β) : Rs β := match r with
  | .ok a h => k a h
  | .ex c h => .ex c h
  | .no => .no
structure Gd where
  K : PySem.W.Frag
  G : Nat → Addr
  sa : Addr
  ns : List Int
  T : List (Addr × Str)
  hot : Option (Addr × Obj)
def ScrAt (g : Gd) (H : Hp) : Prop :=
  (∃ o, H g.sa = some (.frz o (.lst (g.ns.map V.int)))) ∨
    ∃ (o : Obj) (its : Array Value) (n : Nat), g.K.lookup g.sa = some o ∧ o.cls = .type "list" ∧ o.dict = none ∧ o.data = .seq its n ∧ its.size ≤ sizeLine ∧ Vals (g.ns.map V.int) its.toList
/-- a tuple whose object is known to bear no dict -/
def SqN (K : PySem.W.Frag) (H : Hp) (a : Addr) (xs : List V) : Prop :=
  (∃ o : Obj, H a = some (.frz o (.tup xs)) ∧ o.dict = none) ∨
    ∃ (o : Obj) (its : Array Value) (n : Nat), K.lookup a = some o ∧ o.cls = .type "tuple" ∧ o.dict = none ∧ o.data = .seq its n ∧ its.size ≤ sizeLine ∧ Vals xs its.toList
theorem SqN.sqT {K : PySem.W.Frag} {H : Hp} {a : Addr} {xs : List V} (h : SqN K H a xs) : SqT K H a xs := by
  rcases h with ⟨o, h, _⟩ | ⟨o, its, n, h1, h2, _, h3, h4, h5⟩
  · exact .inl (.inr ⟨o, h⟩)
  · exact .inr ⟨o, its, n, h1, h2, h3, h4, h5⟩
def DTo (a : Addr) (xs : List (List Key × Addr × Value)) : HO := .ext fun h => ∃ o es ep, h.get? a = some o ∧ o.ExactDict ∧ o.data = .dict es ep ∧ ∀ (P : Program) (w : World), es.toList = xs.map (entryOfKey (tupleKind (mixKind P w)))
abbrev KTn (K : PySem.W.Frag) (H : Hp) : List (List Key × V) → List (List Key × Addr × Value) → Prop := Paired fun p q => p.1 = q.1 ∧ SqN K H q.2.1 (p.1.map kV) ∧ RelV p.2 q.2.2
def DtX (K : PySem.W.Frag) (H : Hp) (a : Addr) (ws : List (List Key × V)) : Prop :=
  (a == sysModules) = false ∧ ∃ xs, H a = some (DTo a xs) ∧ KTn K H ws xs ∧ (xs.map (·.1)).Nodup ∧ ∀ q ∈ xs, ∃ is : List Int, q.1 = is.map Sum.inl
theorem DtX.keep {K : PySem.W.Frag} {H H' : Hp} {a : Addr} {ws : List (List Key × V)} (h : DtX K H a ws) (e : ∀ o, H a = some o → H' a = some o) (t : ∀ b vs, SqN K H b vs → SqN K H' b vs) : DtX K H' a ws := by
  obtain ⟨h0, xs, h1, h2, h3⟩ := h
  exact ⟨h0, xs, e _ h1, Paired.mapP h2 fun _ _ z => ⟨z.1, t _ _ z.2.1, z.2.2⟩, h3⟩
mutual
def TN (K : PySem.W.Frag) (H : Hp) : NestedKey → V → Prop
  | .num i, v => v = .int i
  | .tup ks, v => ∃ a vs, v = .ref a ∧ SqN K H a vs ∧ TNs K H ks vs
  | .none, _ => False
  | .text _, _ => False
def TNs (K : PySem.W.Frag) (H : Hp) : List NestedKey → List V → Prop
  | [], vs => vs = []
  | k :: ks, vs => ∃ v r, vs = v :: r ∧ TN K H k v ∧ TNs K H ks r
end
mutual
theorem TN.keep {K : PySem.W.Frag} {H H' : Hp} (t : ∀ b vs, SqN K H b vs → SqN K H' b vs) : ∀ (k : NestedKey) (v : V), TN K H k v → TN K H' k v
  | .num i, v, h => by simpa only [TN] using h
  | .tup ks, v, h => by
    simp only [TN] at h ⊢
    obtain ⟨a, vs, e, q, r⟩ := h
    exact ⟨a, vs, e, t _ _ q, TNs.keep t ks vs r⟩
  | .none, v, h => by simp only [TN] at h
  | .text _, v, h => by simp only [TN] at h
theorem TNs.keep {K : PySem.W.Frag} {H H' : Hp} (t : ∀ b vs, SqN K H b vs → SqN K H' b vs) : ∀ (ks : List NestedKey) (vs : List V), TNs K H ks vs → TNs K H' ks vs
  | [], vs, h => by simpa only [TNs] using h
  | k :: ks, vs, h => by
    simp only [TNs] at h ⊢
    obtain ⟨v, r, e, q, s⟩ := h
    exact ⟨v, r, e, TN.keep t k v q, TNs.keep t ks r s⟩
end
mutual
def numK : NestedKey → Bool
  | .num _ => true
  | .tup ks => numKs ks
  | .none => false
  | .text _ => false
def numKs : List NestedKey → Bool
  | [] => true
  | k :: ks => numK k && numKs ks
end
def DUo (a : Addr) (xs : List (NestedKey × Addr × Value)) : HO := .ext fun h => ∃ o es ep, h.get? a = some o ∧ o.ExactDict ∧ o.data = .dict es ep ∧ ∀ (P : Program) (w : World), es.toList = xs.map (entryOfKey (nestedKind P w))
abbrev KUn (K : PySem.W.Frag) (H : Hp) : List (NestedKey × V) → List (NestedKey × Addr × Value) → Prop := Paired fun p q => p.1 = q.1 ∧ TN K H p.1 (.ref q.2.1) ∧ RelV p.2 q.2.2
def DuX (K : PySem.W.Frag) (H : Hp) (a : Addr) (ws : List (NestedKey × V)) : Prop :=
  (a == sysModules) = false ∧ ∃ xs, H a = some (DUo a xs) ∧ KUn K H ws xs ∧ (xs.map (·.1)).Nodup ∧ ∀ q ∈ xs, numK q.1 = true ∧ q.1.depth ≤ 8
theorem DuX.keep {K : PySem.W.Frag} {H H' : Hp} {a : Addr} {ws : List (NestedKey × V)} (h : DuX K H a ws) (e : ∀ o, H a = some o → H' a = some o) (t : ∀ b vs, SqN K H b vs → SqN K H' b vs) : DuX K H' a ws := by
  obtain ⟨h0, xs, h1, h2, h3⟩ := h
  exact ⟨h0, xs, e _ h1, Paired.mapP h2 fun _ _ z => ⟨z.1, TN.keep t _ _ z.2.1, z.2.2⟩, h3⟩
/-- a caught exception that is kept: its object stays as it is -/
abbrev exF : HO := .ext fun _ => True
def ExV (g : Gd) (H : Hp) (c : Nat) (v : V) : Prop := ∃ (a : Addr) (oe : Obj), v = .ref a ∧ (H a = some (.frz oe exF) ∨ g.hot = some (a, oe)) ∧ oe.cls = .ref (g.G c) ∧ oe.dict = none ∧ ∃ vs, oe.data = .fields vs
section
variable (g : Gd) (ρ : List Addr) (H : Hp)
mutual
def Rv : Va → V → Prop
  | .non, v => v = .non
  | .bl b, v => v = .bl b
  | .int i, v => v = .int i
  | .str x, v => v = .str x
  | .ty n, v => v = .ty n
  | .gl n, v => v = .ref (g.G n)
  | .scr, v => v = .ref g.sa ∧ ScrAt g H
  | .exc c, v => ExV g H c v
  | .ref i, v => ∃ a, ρ[i]? = some a ∧ v = .ref a
  | .tup xs, v => ∃ a vs, v = .ref a ∧ SqN g.K H a vs ∧ Rvs xs vs
def Rvs : List Va → List V → Prop
  | [], vs => vs = []
  | x :: xs, vs => ∃ v r, vs = v :: r ∧ Rv x v ∧ Rvs xs r
end
def Rkv {κ : Type} : List (κ × Va) → List (κ × V) → Prop
  | [], vs => vs = []
  | (k, x) :: xs, vs => ∃ v r, vs = (k, v) :: r ∧ Rv g ρ H x v ∧ Rkv xs r
def Ro (a : Addr) : Ob → Prop
  | .lst xs => ∃ vs, H a = some (.lst vs) ∧ Rvs g ρ H xs vs
  | .dK kvs => ∃ ws, H a = some (.dK ws) ∧ Rkv g ρ H kvs ws
  | .dT kvs => ∃ ws, DtX g.K H a ws ∧ Rkv g ρ H kvs ws
  | .dU kvs => ∃ ws, DuX g.K H a ws ∧ Rkv g ρ H kvs ws
  | .ins c fs => ∃ dx ws, H a = some (.ins (g.G c) dx ws) ∧ Rkv g ρ H fs ws
  | .dF kvs => ∃ o ws, H a = some (.frz o (.dK ws)) ∧ Rkv g ρ H kvs ws
structure Rh (hp : Hs) : Prop where
  len : ρ.length = hp.length
  nd : ρ.Nodup
  tab : LamX.Tabs g.T H
  obj : ∀ (i : Nat) (a : Addr) (o : Ob), ρ[i]? = some a → hp[i]? = some o → Ro g ρ H a o
structure Rsl (s : Sg) (σ : L2.St) : Prop where
  len : s.length = σ.length
  at_ : ∀ (i : Nat) (x : Va), s[i]? = some (some x) → ∃ v, σ[i]? = some (some v) ∧ Rv g ρ H x v
end
/-- no table -/
def NT (o : HO) : Prop := ∀ ps, o ≠ .tbl ps
structure Sp1 (ρ : List Addr) (H : Hp) (ρ' : List Addr) (H' : Hp) : Prop where
  pre : ρ <+: ρ'
  new : ∀ b, b ∈ ρ' → b ∈ ρ ∨ ∀ o, H b = some o → NT o → False
  keep : ∀ b o, H b = some o → b ∉ ρ → NT o → H' b = some o
  frz : ∀ b o u, H b = some (.frz o u) → H' b = some (.frz o u)
theorem Sp1.refl (ρ : List Addr) (H : Hp) : Sp1 ρ H ρ H := ⟨List.prefix_refl _, fun _ h => .inl h, fun _ _ h _ _ => h, fun _ _ _ h => h⟩
theorem Sp1.trans {ρ ρ1 ρ2 : List Addr} {H H1 H2 : Hp} (a : Sp1 ρ H ρ1 H1) (b : Sp1 ρ1 H1 ρ2 H2) : Sp1 ρ H ρ2 H2 where
  pre := a.pre.trans b.pre
  new := fun c hc => by
    rcases b.new c hc with h | h
    · exact a.new c h
    · by_cases hr : c ∈ ρ
      · exact .inl hr
      · right
        exact fun o q n => h o (a.keep c o q hr n) n
  keep := fun c o hc hn nt => by
    refine b.keep c o (a.keep c o hc hn nt) (fun h => ?_) nt
    rcases a.new c h with q | q
    · exact hn q
    · exact q o hc nt
  frz := fun c o u hc => b.frz c o u (a.frz c o u hc)
theorem new_none {H : Hp} {b : Addr} (h : H b = none) : ∀ o, H b = some o → NT o → False := fun o e _ => by rw [h] at e; cases e
theorem dto_ne {a : Addr} {xs : List (List Key × Addr × Value)} {q : Str} : DTo a xs ≠ LamX.CodeO a q := fun z => by
  unfold DTo LamX.CodeO at z
  injection z with z
  have k : ∃ (oc : Obj) (vs : Array Value) (t : Tok), ({ objs := Array.replicate (a + 1) { cls := .none, data := .fields #[.none, .str q default] } } : Heap).get? a = some oc ∧ oc.data = .fields vs ∧ vs[1]? = some (.str q t) := by
    refine ⟨{ cls := .none, data := .fields #[.none, .str q default] }, #[.none, .str q default], default, ?_, rfl, rfl⟩
    unfold Heap.get?
    simp
  have k2 := (congrFun z ({ objs := Array.replicate (a + 1) { cls := .none, data := .fields #[.none, .str q default] } } : Heap)).mpr k
  obtain ⟨o, es, ep, e, _, d, _⟩ := k2
  unfold Heap.get? at e
  simp at e
  rw [← e] at d
  cases d
theorem duo_ne {a : Addr} {xs : List (NestedKey × Addr × Value)} {q : Str} : DUo a xs ≠ LamX.CodeO a q := fun z => by
  unfold DUo LamX.CodeO at z
  injection z with z
  have k : ∃ (oc : Obj) (vs : Array Value) (t : Tok), ({ objs := Array.replicate (a + 1) { cls := .none, data := .fields #[.none, .str q default] } } : Heap).get? a = some oc ∧ oc.data = .fields vs ∧ vs[1]? = some (.str q t) := by
    refine ⟨{ cls := .none, data := .fields #[.none, .str q default] }, #[.none, .str q default], default, ?_, rfl, rfl⟩
    unfold Heap.get?
    simp
  have k2 := (congrFun z ({ objs := Array.replicate (a + 1) { cls := .none, data := .fields #[.none, .str q default] } } : Heap)).mpr k
  obtain ⟨o, es, ep, e, _, d, _⟩ := k2
  unfold Heap.get? at e
  simp at e
  rw [← e] at d
  cases d
theorem nd_ix {N : List Addr} (hN : N.Nodup) {i j : Nat} {x : Addr} (a : N[i]? = some x) (b : N[j]? = some x) : i = j := by
  obtain ⟨h1, e1⟩ := List.getElem?_eq_some_iff.mp a
  obtain ⟨h2, e2⟩ := List.getElem?_eq_some_iff.mp b
  exact (List.getElem_inj hN).mp (e1.trans e2.symm)
section
variable {g : Gd} {ρ ρ' : List Addr} {H H' : Hp} {hp : Hs}
theorem Rh.there (R : Rh g ρ H hp) {a : Addr} (h : a ∈ ρ) : ∃ (i : Nat) (o : Ob), ρ[i]? = some a ∧ hp[i]? = some o ∧ Ro g ρ H a o := by
  obtain ⟨i, hi, e⟩ := List.getElem_of_mem h
  have h1 : ρ[i]? = some a := by rw [List.getElem?_eq_getElem hi, e]
  have hl : i < hp.length := by rw [← R.len]; exact hi
  exact ⟨i, hp[i], h1, List.getElem?_eq_getElem hl, R.obj _ _ _ h1 (List.getElem?_eq_getElem hl)⟩
/-- what may be ours -/
def Own : Option HO → Prop
  | some (.lst _) => True
  | some (.dK _) => True
  | some (.dT _) => True
  | some (.ins _ _ _) => True
  | some (.frz _ (.dK _)) => True
  | some (.ext _) => True
  | _ => False
theorem Ro.mut {a : Addr} {o : Ob} (h : Ro g ρ H a o) : Own (H a) := by
  cases o with
  | lst xs => obtain ⟨vs, e, _⟩ := h; rw [e]; trivial
  | dK kvs => obtain ⟨vs, e, _⟩ := h; rw [e]; trivial
  | dT kvs => obtain ⟨vs, ⟨_, _, e, _⟩, _⟩ := h; rw [e]; trivial
  | dU kvs => obtain ⟨vs, ⟨_, _, e, _⟩, _⟩ := h; rw [e]; trivial
  | ins c fs => obtain ⟨dx, vs, e, _⟩ := h; rw [e]; trivial
  | dF kvs => obtain ⟨dx, vs, e, _⟩ := h; rw [e]; trivial
theorem Rh.mut (R : Rh g ρ H hp) {a : Addr} (h : a ∈ ρ) : Own (H a) := by
  obtain ⟨_, _, _, _, r⟩ := R.there h
  exact r.mut
theorem Ro.code {a : Addr} {o : Ob} (h : Ro g ρ H a o) (q : Str) : H a ≠ some (LamX.CodeO a q) := by
  cases o with
  | lst xs => obtain ⟨vs, e, _⟩ := h; rw [e]; intro z; cases z
  | dK kvs => obtain ⟨vs, e, _⟩ := h; rw [e]; intro z; cases z
  | dT kvs => obtain ⟨vs, ⟨_, _, e, _⟩, _⟩ := h; rw [e]; exact fun z => dto_ne (Option.some.inj z)
  | dU kvs => obtain ⟨vs, ⟨_, _, e, _⟩, _⟩ := h; rw [e]; exact fun z => duo_ne (Option.some.inj z)
  | ins c fs => obtain ⟨dx, vs, e, _⟩ := h; rw [e]; intro z; cases z
  | dF kvs => obtain ⟨dx, vs, e, _⟩ := h; rw [e]; intro z; cases z
theorem Rh.not_in (R : Rh g ρ H hp) {a : Addr} {o : HO} (h : H a = some o) (hm : ¬ Own (some o)) : a ∉ ρ := fun z => hm (h ▸ R.mut z)
theorem Rh.tabs (R : Rh g ρ H hp) (e : ∀ b o, H b = some o → b ∉ ρ → H' b = some o) : LamX.Tabs g.T H' := fun p hpT => by
  obtain ⟨ps, h1, h2, h3⟩ := R.tab p hpT
  refine ⟨ps, e _ _ h1 (R.not_in h1 fun z => z), h2, fun pos cv hc => ?_⟩
  obtain ⟨c, e1, e2⟩ := h3 pos cv hc
  refine ⟨c, e1, e _ _ e2 fun z => ?_⟩
  obtain ⟨_, _, _, _, r⟩ := R.there z
  exact r.code _ e2
theorem NT.ofOwn {o : HO} (h : Own (some o)) : NT o := fun ps z => by rw [z] at h; exact h
theorem Ro.nt {a : Addr} {o : Ob} {u : HO} (h : Ro g ρ H a o) (e : H a = some u) : NT u := NT.ofOwn (by rw [← e]; exact h.mut)
theorem Rh.clash (R : Rh g ρ H hp) {a : Addr} (h : a ∈ ρ) (q : ∀ o, H a = some o → NT o → False) : False := by
  have m := R.mut h
  cases e : H a with
  | none => rw [e] at m; exact m
  | some o => exact q o e (NT.ofOwn (by rw [← e]; exact m))
theorem SqN.step (R : Rh g ρ H hp) (S : Sp1 ρ H ρ' H') {a : Addr} {vs : List V} (h : SqN g.K H a vs) : SqN g.K H' a vs := by
  rcases h with ⟨o, h, d⟩ | h
  · exact .inl ⟨o, S.keep _ _ h (R.not_in h fun z => z) (fun _ z => nomatch z), d⟩
  · exact .inr h
theorem ScrAt.step (R : Rh g ρ H hp) (S : Sp1 ρ H ρ' H') (h : ScrAt g H) : ScrAt g H' := by
  rcases h with ⟨o, h⟩ | h
  · exact .inl ⟨o, S.keep _ _ h (R.not_in h fun z => z) (fun _ z => nomatch z)⟩
  · exact .inr h
theorem pre_get {α : Type} {a b : List α} (h : a <+: b) {i : Nat} {x : α} (e : a[i]? = some x) : b[i]? = some x := by
  obtain ⟨c, rfl⟩ := h
  have hi : i < a.length := (List.getElem?_eq_some_iff.mp e).1
  rw [List.getElem?_append_left hi]; exact e
mutual
theorem Rv.step (R : Rh g ρ H hp) (S : Sp1 ρ H ρ' H') : ∀ (x : Va) (v : V), Rv g ρ H x v → Rv g ρ' H' x v
  | .non, _, h => by simpa only [Rv] using h
  | .bl _, _, h => by simpa only [Rv] using h
  | .int _, _, h => by simpa only [Rv] using h
  | .str _, _, h => by simpa only [Rv] using h
  | .ty _, _, h => by simpa only [Rv] using h
  | .gl _, _, h => by simpa only [Rv] using h
  | .scr, _, h => by
    simp only [Rv] at h ⊢
    exact ⟨h.1, h.2.step R S⟩
  | .exc c, _, h => by
    simp only [Rv] at h ⊢
    obtain ⟨a, oe, e, z, q⟩ := h
    exact ⟨a, oe, e, z.imp (S.frz _ _ _) id, q⟩
  | .ref i, _, h => by
    simp only [Rv] at h ⊢
    obtain ⟨a, e, h⟩ := h
    exact ⟨a, pre_get S.pre e, h⟩
  | .tup xs, _, h => by
    simp only [Rv] at h ⊢
    obtain ⟨a, vs, e, q, r⟩ := h
    exact ⟨a, vs, e, SqN.step R S q, Rvs.step R S xs vs r⟩
theorem Rvs.step (R : Rh g ρ H hp) (S : Sp1 ρ H ρ' H') : ∀ (x : List Va) (v : List V), Rvs g ρ H x v → Rvs g ρ' H' x v
  | [], _, h => by simpa only [Rvs] using h
  | x :: xs, _, h => by
    simp only [Rvs] at h ⊢
    obtain ⟨v, r, e, h1, h2⟩ := h
    exact ⟨v, r, e, Rv.step R S x v h1, Rvs.step R S xs r h2⟩
end
theorem Rkv.step {κ : Type} (R : Rh g ρ H hp) (S : Sp1 ρ H ρ' H') : ∀ (x : List (κ × Va)) (v : List (κ × V)), Rkv g ρ H x v → Rkv g ρ' H' x v
  | [], _, h => h
  | (k, x) :: xs, _, h => by
    obtain ⟨v, r, e, h1, h2⟩ := h
    exact ⟨v, r, e, Rv.step R S x v h1, Rkv.step R S xs r h2⟩
theorem Rsl.step (R : Rh g ρ H hp) (S : Sp1 ρ H ρ' H') {s : Sg} {σ : L2.St} (h : Rsl g ρ H s σ) : Rsl g ρ' H' s σ :=
  ⟨h.len, fun i x e => by obtain ⟨v, e1, r⟩ := h.at_ i x e; exact ⟨v, e1, Rv.step R S _ _ r⟩⟩
theorem Rsl.set {s : Sg} {σ : L2.St} (h : Rsl g ρ H s σ) (i : Nat) {x : Va} {v : V} (r : Rv g ρ H x v) : Rsl g ρ H (s.set i (some x)) (σ.set i (some v)) := by
  refine ⟨by simpa using h.len, fun j y e => ?_⟩
  by_cases hj : i = j
  · subst hj
    by_cases hi : i < s.length
    · rw [List.getElem?_set_self hi] at e
      cases e
      exact ⟨v, by rw [List.getElem?_set_self (by rw [← h.len]; exact hi)], r⟩
    · rw [List.getElem?_eq_none (by simpa using hi)] at e; cases e
  · rw [List.getElem?_set_ne hj] at e ⊢
    exact h.at_ j y e
theorem Rvs.length : ∀ {xs : List Va} {vs : List V}, Rvs g ρ H xs vs → xs.length = vs.length
  | [], _, h => by simp only [Rvs] at h; subst h; rfl
  | x :: xs, _, h => by
    simp only [Rvs] at h
    obtain ⟨v, r, rfl, _, h2⟩ := h
    simp [Rvs.length h2]
theorem Rvs.get : ∀ {xs : List Va} {vs : List V} {i : Nat} {x : Va}, Rvs g ρ H xs vs → xs[i]? = some x → ∃ v, vs[i]? = some v ∧ Rv g ρ H x v
  | [], _, _, _, _, e => by simp at e
  | y :: xs, _, 0, x, h, e => by
    simp only [Rvs] at h
    obtain ⟨v, r, rfl, h1, h2⟩ := h
    simp at e; subst e
    exact ⟨v, rfl, h1⟩
  | y :: xs, _, i + 1, x, h, e => by
    simp only [Rvs] at h
    obtain ⟨v, r, rfl, h1, h2⟩ := h
    obtain ⟨w, e1, r1⟩ := Rvs.get (i := i) h2 (by simpa using e)
    exact ⟨w, by simpa using e1, r1⟩
theorem Rvs.append : ∀ {xs ys : List Va} {vs ws : List V}, Rvs g ρ H xs vs → Rvs g ρ H ys ws → Rvs g ρ H (xs ++ ys) (vs ++ ws)
  | [], _, _, _, h, h' => by simp only [Rvs] at h; subst h; exact h'
  | x :: xs, ys, _, ws, h, h' => by
    simp only [Rvs] at h
    obtain ⟨v, r, rfl, h1, h2⟩ := h
    simp only [List.cons_append, Rvs]
    exact ⟨v, r ++ ws, rfl, h1, Rvs.append h2 h'⟩
theorem Rvs.nil : Rvs g ρ H [] [] := by simp only [Rvs]
theorem Rvs.cons {x : Va} {v : V} {xs : List Va} {vs : List V} (h : Rv g ρ H x v) (h' : Rvs g ρ H xs vs) : Rvs g ρ H (x :: xs) (v :: vs) := by
  simp only [Rvs]; exact ⟨v, vs, rfl, h, h'⟩
theorem Rvs.cons_inv {x : Va} {v : V} {xs : List Va} {vs : List V} (h : Rvs g ρ H (x :: xs) (v :: vs)) : Rv g ρ H x v ∧ Rvs g ρ H xs vs := by
  simp only [Rvs] at h
  obtain ⟨v', r, e, h1, h2⟩ := h
  cases e
  exact ⟨h1, h2⟩
theorem Rvs.one {x : Va} {v : V} (h : Rv g ρ H x v) : Rvs g ρ H [x] [v] := Rvs.cons h Rvs.nil
theorem Rvs.set : ∀ {xs : List Va} {vs : List V} {x : Va} {v : V} (i : Nat), Rvs g ρ H xs vs → Rv g ρ H x v → Rvs g ρ H (xs.set i x) (vs.set i v)
  | [], _, _, _, _, h, _ => by simp only [Rvs] at h; subst h; simp only [List.set_nil, Rvs]
  | y :: xs, _, x, v, 0, h, hv => by
    simp only [Rvs] at h
    obtain ⟨w, r, rfl, h1, h2⟩ := h
    exact Rvs.cons hv h2
  | y :: xs, _, x, v, i + 1, h, hv => by
    simp only [Rvs] at h
    obtain ⟨w, r, rfl, h1, h2⟩ := h
    exact Rvs.cons h1 (Rvs.set i h2 hv)
theorem Rvs.of_get : ∀ {xs : List Va} {vs : List V}, xs.length = vs.length → (∀ (i : Nat) (x : Va) (v : V), xs[i]? = some x → vs[i]? = some v → Rv g ρ H x v) → Rvs g ρ H xs vs
  | [], [], _, _ => Rvs.nil
  | [], _ :: _, e, _ => by simp at e
  | _ :: _, [], e, _ => by simp at e
  | x :: xs, v :: vs, e, h => Rvs.cons (h 0 x v rfl rfl) (Rvs.of_get (by simpa using e) fun i a b h1 h2 => h (i + 1) a b (by simpa using h1) (by simpa using h2))
theorem Rvs.take {xs : List Va} {vs : List V} (n : Nat) (h : Rvs g ρ H xs vs) : Rvs g ρ H (xs.take n) (vs.take n) := by
  refine Rvs.of_get (by simp [h.length]) fun i x v h1 h2 => ?_
  have a : i < n ∧ xs[i]? = some x := by
    rw [List.getElem?_take] at h1; split at h1 <;> simp_all
  have b : vs[i]? = some v := by
    rw [List.getElem?_take] at h2; split at h2 <;> simp_all
  obtain ⟨w, e, r⟩ := h.get a.2
  rw [b] at e; cases e; exact r
theorem Rvs.drop {xs : List Va} {vs : List V} (n : Nat) (h : Rvs g ρ H xs vs) : Rvs g ρ H (xs.drop n) (vs.drop n) := by
  refine Rvs.of_get (by simp [h.length]) fun i x v h1 h2 => ?_
  rw [List.getElem?_drop] at h1 h2
  obtain ⟨w, e, r⟩ := h.get h1
  rw [h2] at e; cases e; exact r
theorem Rvs.reverse {xs : List Va} {vs : List V} (h : Rvs g ρ H xs vs) : Rvs g ρ H xs.reverse vs.reverse := by
  have hl := h.length
  refine Rvs.of_get (by simp [hl]) fun i x v h1 h2 => ?_
  have hi : i < xs.length := by have := (List.getElem?_eq_some_iff.mp h1).1; simpa using this
  rw [List.getElem?_reverse hi] at h1
  rw [List.getElem?_reverse (by omega)] at h2
  obtain ⟨w, e, r⟩ := h.get h1
  rw [hl] at e
  rw [h2] at e; cases e; exact r
theorem Rvs.none_of {xs : List Va} {vs : List V} {i : Nat} (h : Rvs g ρ H xs vs) (e : xs[i]? = none) : vs[i]? = none := by
  have := h.length
  rw [List.getElem?_eq_none_iff] at e ⊢
  omega
theorem Rh.new (R : Rh g ρ H hp) {p : Addr} {u : HO} {o : Ob} (hn : H p = none) (ho : ∀ (S : Sp1 ρ H (ρ ++ [p]) (upd H p u)), Ro g (ρ ++ [p]) (upd H p u) p o) :
    Sp1 ρ H (ρ ++ [p]) (upd H p u) ∧ Rh g (ρ ++ [p]) (upd H p u) (hp ++ [o]) := by
  have S : Sp1 ρ H (ρ ++ [p]) (upd H p u) := by
    refine ⟨List.prefix_append _ _, fun b hb => ?_, fun b x hb _ _ => ?_, fun b x u hb => ?_⟩
    · rcases List.mem_append.mp hb with h | h
      · exact .inl h
      · obtain rfl := List.mem_singleton.mp h; exact .inr (new_none hn)
    · rw [upd_ne (ne_of_none hb hn)]; exact hb
    · rw [upd_ne (ne_of_none hb hn)]; exact hb
  have hp' : p ∉ ρ := fun h => by have := R.mut h; rw [hn] at this; exact this
  refine ⟨S, ⟨by simp [R.len], ?_, R.tabs fun b x hb _ => by rw [upd_ne (ne_of_none hb hn)]; exact hb, fun i a x h1 h2 => ?_⟩⟩
  · rw [List.nodup_append]
    refine ⟨R.nd, by simp, fun a ha b hb => ?_⟩
    obtain rfl := List.mem_singleton.mp hb
    intro e; subst e; exact hp' ha
  · by_cases hi : i < ρ.length
    · rw [List.getElem?_append_left hi] at h1
      rw [List.getElem?_append_left (by rw [← R.len]; exact hi)] at h2
      have q := R.obj i a x h1 h2
      have hne : a ≠ p := fun e => hp' (e ▸ List.mem_of_getElem? h1)
      cases x with
      | lst xs => obtain ⟨vs, e, r⟩ := q; exact ⟨vs, by rw [upd_ne hne]; exact e, Rvs.step R S _ _ r⟩
      | dK xs => obtain ⟨vs, e, r⟩ := q; exact ⟨vs, by rw [upd_ne hne]; exact e, Rkv.step R S _ _ r⟩
      | dT xs => obtain ⟨vs, e, r⟩ := q; exact ⟨vs, e.keep (fun _ z => by rw [upd_ne hne]; exact z) (fun _ _ z => SqN.step R S z), Rkv.step R S _ _ r⟩
      | dU xs => obtain ⟨vs, e, r⟩ := q; exact ⟨vs, e.keep (fun _ z => by rw [upd_ne hne]; exact z) (fun _ _ z => SqN.step R S z), Rkv.step R S _ _ r⟩
      | ins c xs => obtain ⟨dx, vs, e, r⟩ := q; exact ⟨dx, vs, by rw [upd_ne hne]; exact e, Rkv.step R S _ _ r⟩
      | dF xs => obtain ⟨dx, vs, e, r⟩ := q; exact ⟨dx, vs, by rw [upd_ne hne]; exact e, Rkv.step R S _ _ r⟩
    · have hi2 : i = ρ.length := by
        have := (List.getElem?_eq_some_iff.mp h1).1
        simp at this; omega
      subst hi2
      simp at h1
      subst h1
      rw [R.len] at h2
      simp at h2
      subst h2
      exact ho S
/-- a tuple (or anything that is not ours) is laid -/
theorem Rh.laid (R : Rh g ρ H hp) {p : Addr} {u : HO} (hn : H p = none) : Sp1 ρ H ρ (upd H p u) ∧ Rh g ρ (upd H p u) hp := by
  have S : Sp1 ρ H ρ (upd H p u) := ⟨List.prefix_refl _, fun _ h => .inl h, fun b x hb _ _ => by rw [upd_ne (ne_of_none hb hn)]; exact hb, fun b x u hb => by rw [upd_ne (ne_of_none hb hn)]; exact hb⟩
  refine ⟨S, ⟨R.len, R.nd, R.tabs fun b x hb _ => by rw [upd_ne (ne_of_none hb hn)]; exact hb, fun i a x h1 h2 => ?_⟩⟩
  have q := R.obj i a x h1 h2
  have hne : a ≠ p := fun e => by
    have := q.mut; rw [e, hn] at this; exact this
  cases x with
  | lst xs => obtain ⟨vs, e, r⟩ := q; exact ⟨vs, by rw [upd_ne hne]; exact e, Rvs.step R S _ _ r⟩
  | dK xs => obtain ⟨vs, e, r⟩ := q; exact ⟨vs, by rw [upd_ne hne]; exact e, Rkv.step R S _ _ r⟩
  | dT xs => obtain ⟨vs, e, r⟩ := q; exact ⟨vs, e.keep (fun _ z => by rw [upd_ne hne]; exact z) (fun _ _ z => SqN.step R S z), Rkv.step R S _ _ r⟩
  | dU xs => obtain ⟨vs, e, r⟩ := q; exact ⟨vs, e.keep (fun _ z => by rw [upd_ne hne]; exact z) (fun _ _ z => SqN.step R S z), Rkv.step R S _ _ r⟩
  | ins c xs => obtain ⟨dx, vs, e, r⟩ := q; exact ⟨dx, vs, by rw [upd_ne hne]; exact e, Rkv.step R S _ _ r⟩
  | dF xs => obtain ⟨dx, vs, e, r⟩ := q; exact ⟨dx, vs, by rw [upd_ne hne]; exact e, Rkv.step R S _ _ r⟩
/-- an object of ours is changed -/
theorem Rh.put (R : Rh g ρ H hp) {i : Nat} {a : Addr} {u : HO} {o : Ob} (hi : ρ[i]? = some a) (hfz : ∀ x y, H a ≠ some (.frz x y)) (ho : ∀ (S : Sp1 ρ H ρ (upd H a u)), Ro g ρ (upd H a u) a o) :
    Sp1 ρ H ρ (upd H a u) ∧ Rh g ρ (upd H a u) (hp.set i o) := by
  have hm : a ∈ ρ := List.mem_of_getElem? hi
  have S : Sp1 ρ H ρ (upd H a u) := ⟨List.prefix_refl _, fun _ h => .inl h, fun b x hb hn _ => by rw [upd_ne (show b ≠ a from fun e => hn (by rw [e]; exact hm))]; exact hb, fun b x y hb => by rw [upd_ne (show b ≠ a from fun e => hfz x y (by rw [← e]; exact hb))]; exact hb⟩
  refine ⟨S, ⟨by simp [R.len], R.nd, R.tabs fun b x hb hn => by rw [upd_ne (show b ≠ a from fun e => hn (by rw [e]; exact hm))]; exact hb, fun j b x h1 h2 => ?_⟩⟩
  by_cases hj : i = j
  · subst hj
    rw [hi] at h1; cases h1
    have : i < hp.length := by rw [← R.len]; exact (List.getElem?_eq_some_iff.mp hi).1
    rw [List.getElem?_set_self this] at h2
    cases h2
    exact ho S
  · rw [List.getElem?_set_ne hj] at h2
    have q := R.obj j b x h1 h2
    have hne : b ≠ a := fun e => hj (nd_ix R.nd hi (by rw [e] at h1; exact h1))
    cases x with
    | lst xs => obtain ⟨vs, e, r⟩ := q; exact ⟨vs, by rw [upd_ne hne]; exact e, Rvs.step R S _ _ r⟩
    | dK xs => obtain ⟨vs, e, r⟩ := q; exact ⟨vs, by rw [upd_ne hne]; exact e, Rkv.step R S _ _ r⟩
    | dT xs => obtain ⟨vs, e, r⟩ := q; exact ⟨vs, e.keep (fun _ z => by rw [upd_ne hne]; exact z) (fun _ _ z => SqN.step R S z), Rkv.step R S _ _ r⟩
    | dU xs => obtain ⟨vs, e, r⟩ := q; exact ⟨vs, e.keep (fun _ z => by rw [upd_ne hne]; exact z) (fun _ _ z => SqN.step R S z), Rkv.step R S _ _ r⟩
    | ins c xs => obtain ⟨dx, vs, e, r⟩ := q; exact ⟨dx, vs, by rw [upd_ne hne]; exact e, Rkv.step R S _ _ r⟩
    | dF xs => obtain ⟨dx, vs, e, r⟩ := q; exact ⟨dx, vs, by rw [upd_ne hne]; exact e, Rkv.step R S _ _ r⟩
end
/-- a class's number, with 100 more: nothing is known of the exception's context -/
def dty (c : Nat) : Option Addr := if c < 100 then none else some 0
def Takes (X : Cx) (W : WX) : Prop := L2N.Takes X (fun cls d σ H => d = none ∧ W cls none σ H) ∧ L2.Takes X (fun cls d σ H => d = none ∧ W cls (some 0) σ H)
def CXM (P : Program) (w : World) : CXT := fun outer H s E u s' => L2N.CX P w outer H s (fun cls d H' => d = none ∧ E cls none H') u s' ∨ L2.CX P w outer H s (fun cls d H' => d = none ∧ E cls (some 0) H') u s'
theorem takes_of {X : Cx} {E : XK} (hs : X.stack = X.env :: X.outer) (hf : X.env.frame = some X.env.locals) (hex : X.ex = []) {E₁ : Value → Shared → Prop}
    (hx : X.xe = fun e s' => wpAny (model X.prog X.w) X.A (leaving X.env e) (fun _ s'' => CXM X.prog X.w X.outer X.H_0 X.s_0 E e s'') E₁ s') : Takes X (fun cls d _ H => E cls d H) := by
  refine ⟨fun u s' x => ?_, fun u s' x => ?_⟩
  · rw [hx]
    exact wpAny_mono (L2N.XE.leave (W := fun cls d _ H => d = none ∧ E cls none H) (E := fun cls d H => d = none ∧ E cls none H) (E₁ := E₁) hs hf hex (fun _ _ _ _ h => h) x) (fun _ _ z => .inl z) (fun _ _ z => z)
  · rw [hx]
    exact wpAny_mono (L2.XE.leave (W := fun cls d _ H => d = none ∧ E cls (some 0) H) (E := fun cls d H => d = none ∧ E cls (some 0) H) (E₁ := E₁) hs hf hex (fun _ _ _ _ h => h) x) (fun _ _ z => .inr z) (fun _ _ z => z)
theorem passAt {X : Cx} {W : WX} (tk : Takes X W) (σ : L2.St) : PassesAt (CXM X.prog X.w) X σ (WE W σ) := fun _ _ _ e s' I c => c.elim (fun c => tk.1 e s' (L2N.XE.of_call I (fun _ _ _ h => h) c)) (fun c => tk.2 e s' (L2.XE.of_call I (fun _ _ _ h => h) c))
theorem takes0M {X : Cx} : Takes X (fun _ _ _ _ => False) := ⟨fun _ _ x => by
  obtain ⟨_, _, _, _, _, _, _, _, _, _, _, _, _, _, _, _, w⟩ := x
  exact w.2.elim, fun _ _ x => by
  obtain ⟨_, _, _, _, _, _, _, _, _, _, _, _, _, _, _, _, w⟩ := x
  exact w.2.elim⟩
theorem heldZ_imp {h B : Heap} {l : List Env} {a L : Addr} {Z Z' : Obj → Prop} (z : ∀ o, Z o → Z' o) (x : HandSPX.HeldZ B l a Z L h) : HandSPX.HeldZ B l a Z' L h := ⟨x.1, x.2.1, x.2.2.1, L2H.tracedZ_imp z x.2.2.2⟩
theorem xe_weak {X : Cx} {W : WX} {u : Value} {s' : Shared} (x : L2N.XE X W u s') : L2.XE X W u s' := by
  obtain ⟨a, B, sI, pins, σ, H, cls, d, e, I, nb, up, sky, na, os, ag, w⟩ := x
  refine ⟨a, B, sI, pins, σ, H, cls, d, e, I, nb, up, ?_, na, os, ag, w⟩
  rcases sky with ⟨s1, s2, s3, oe, vs, s4, s5, s6⟩ | sky | sky
  · exact .inl ⟨s1, s2, s3, oe, vs, s4, s5.zc, s6⟩
  · exact .inr (.inl (L2H.flyingZ_imp (fun _ z => z.zc) sky))
  · exact .inr (.inr (heldZ_imp (fun _ z => z.zc) sky))
/-- where all exceptions are taken alike -/
theorem takes_lam {X : Cx} {E : XK} (tk : L2.Takes X (fun cls d _ H => E cls d H)) : Takes X (fun cls _ _ H => E cls none H) := by
  refine ⟨fun u s' x => tk u s' (xe_weak ?_), L2.Takes.imp tk ?_⟩
  · obtain ⟨a, B, sI, pins, σ, H, cls, d, e, I, nb, up, sky, na, os, ag, w⟩ := x
    exact ⟨a, B, sI, pins, σ, H, cls, d, e, I, nb, up, sky, na, os, ag, by rw [w.1]; exact w.2⟩
  · rintro c d σ H ⟨rfl, h⟩
    exact h
def PoE (g : Gd) (ρ : List Addr) (H : Hp) (r : Rs Va) (Q : VK) (E : XK) : Prop := match r with
  | .ok v h => ∀ ρ' H' x, Sp1 ρ H ρ' H' → Rh g ρ' H' h → Rv g ρ' H' v x → Q x H'
  | .ex c h => ∀ ρ' H', Sp1 ρ H ρ' H' → Rh g ρ' H' h → E (.ref (g.G (c % 100))) (dty c) H'
  | .no => False
def PoT (g : Gd) (ρ : List Addr) (H : Hp) (r : Rs Bool) (Q : Bool → Hp → Prop) (E : XK) : Prop := match r with
  | .ok b h => ∀ ρ' H', Sp1 ρ H ρ' H' → Rh g ρ' H' h → Q b H'
  | .ex c h => ∀ ρ' H', Sp1 ρ H ρ' H' → Rh g ρ' H' h → E (.ref (g.G (c % 100))) (dty c) H'
  | .no => False
def PoA (g : Gd) (ρ : List Addr) (H : Hp) (r : Rs (List Va)) (Q : List V → Hp → Prop) (E : XK) : Prop := match r with
  | .ok vs h => ∀ ρ' H' xs, Sp1 ρ H ρ' H' → Rh g ρ' H' h → Rvs g ρ' H' vs xs → Q xs H'
  | .ex c h => ∀ ρ' H', Sp1 ρ H ρ' H' → Rh g ρ' H' h → E (.ref (g.G (c % 100))) (dty c) H'
  | .no => False
def PoS (g : Gd) (ρ : List Addr) (H : Hp) (r : RS) (D : Ends) (W : WX) : Prop := match r with
  | .nx s h => ∀ ρ' H' σ, Sp1 ρ H ρ' H' → Rh g ρ' H' h → Rsl g ρ' H' s σ → D.nx σ H'
  | .bk s h => ∀ ρ' H' σ, Sp1 ρ H ρ' H' → Rh g ρ' H' h → Rsl g ρ' H' s σ → D.bk σ H'
  | .ct s h => ∀ ρ' H' σ, Sp1 ρ H ρ' H' → Rh g ρ' H' h → Rsl g ρ' H' s σ → D.ct σ H'
  | .rt v h => ∀ ρ' H' x, Sp1 ρ H ρ' H' → Rh g ρ' H' h → Rv g ρ' H' v x → D.rt x H'
  | .ex c s h => ∀ ρ' H' σ, Sp1 ρ H ρ' H' → Rh g ρ' H' h → Rsl g ρ' H' s σ → W (.ref (g.G (c % 100))) (dty c) σ H'
  | .no => False
section
variable {g : Gd} {ρ ρ' : List Addr} {H H' : Hp} {Q : VK} {E : XK}
theorem PoE.at {r : Rs Va} (h : PoE g ρ H r Q E) (S : Sp1 ρ H ρ' H') : PoE g ρ' H' r Q E := by
  cases r with
  | ok v hh => exact fun ρ2 H2 x S2 R r => h ρ2 H2 x (S.trans S2) R r
  | ex c hh => exact fun ρ2 H2 S2 R => h ρ2 H2 (S.trans S2) R
  | no => exact h
theorem PoT.at {r : Rs Bool} {Q : Bool → Hp → Prop} (h : PoT g ρ H r Q E) (S : Sp1 ρ H ρ' H') : PoT g ρ' H' r Q E := by
  cases r with
  | ok v hh => exact fun ρ2 H2 S2 R => h ρ2 H2 (S.trans S2) R
  | ex c hh => exact fun ρ2 H2 S2 R => h ρ2 H2 (S.trans S2) R
  | no => exact h
theorem PoA.at {r : Rs (List Va)} {Q : List V → Hp → Prop} (h : PoA g ρ H r Q E) (S : Sp1 ρ H ρ' H') : PoA g ρ' H' r Q E := by
  cases r with
  | ok v hh => exact fun ρ2 H2 x S2 R r => h ρ2 H2 x (S.trans S2) R r
  | ex c hh => exact fun ρ2 H2 S2 R => h ρ2 H2 (S.trans S2) R
  | no => exact h
theorem PoS.at {r : RS} {D : Ends} {W : WX} (h : PoS g ρ H r D W) (S : Sp1 ρ H ρ' H') : PoS g ρ' H' r D W := by
  cases r with
  | nx v hh => exact fun ρ2 H2 x S2 R r => h ρ2 H2 x (S.trans S2) R r
  | bk v hh => exact fun ρ2 H2 x S2 R r => h ρ2 H2 x (S.trans S2) R r
  | ct v hh => exact fun ρ2 H2 x S2 R r => h ρ2 H2 x (S.trans S2) R r
  | rt v hh => exact fun ρ2 H2 x S2 R r => h ρ2 H2 x (S.trans S2) R r
  | ex c v hh => exact fun ρ2 H2 x S2 R r => h ρ2 H2 x (S.trans S2) R r
  | no => exact h
end
section
variable (g : Gd) (W : WX)
def tE (f : De) : TE := fun σ H Q => ∃ ρ s hp, Rh g ρ H hp ∧ Rsl g ρ H s σ ∧ PoE g ρ H (f s hp) Q (fun c d H' => W c d σ H')
def tT (f : Dt) : TT := fun σ H Q => ∃ ρ s hp, Rh g ρ H hp ∧ Rsl g ρ H s σ ∧ PoT g ρ H (f s hp) Q (fun c d H' => W c d σ H')
def tA (f : Da) : TA := fun σ H Q => ∃ ρ s hp, Rh g ρ H hp ∧ Rsl g ρ H s σ ∧ PoA g ρ H (f s hp) Q (fun c d H' => W c d σ H')
def tS (f : Ds) : TS := fun D σ H => ∃ ρ s hp, Rh g ρ H hp ∧ Rsl g ρ H s σ ∧ PoS g ρ H (f s hp) D W
end
/-- what is asked of the place where code stands -/
structure Cz (g : Gd) (X : Cx) (W : WX) (n : Nat) : Prop where
  K : X.K = g.K
  tk : Takes X W
  calm0 : n ≠ 0 → X.calm = true
  nd : X.N.Nodup
  room0 : n ≠ 0 → Room (n - 1) X.A
  pass0 : n ≠ 0 → PassesOwn (model X.prog X.w) X.A X.env X.xe
  un : X.A.units + 100 < cLine
theorem Cz.units {g : Gd} {X : Cx} {W : WX} {n : Nat} (C : Cz g X W n) : X.A.units + 100 < cLine := C.un
theorem Cz.calm {g : Gd} {X : Cx} {W : WX} {n : Nat} (C : Cz g X W (n + 1)) : X.calm = true := C.calm0 (by omega)
theorem Cz.room {g : Gd} {X : Cx} {W : WX} {n : Nat} (C : Cz g X W (n + 1)) : Room n X.A := C.room0 (by omega)
theorem Cz.pass {g : Gd} {X : Cx} {W : WX} {n : Nat} (C : Cz g X W (n + 1)) : PassesOwn (model X.prog X.w) X.A X.env X.xe := C.pass0 (by omega)
theorem Cz.mk1 {g : Gd} {X : Cx} {W : WX} {n : Nat} (hK : X.K = g.K) (tk : Takes X W) (calm : X.calm = true) (nd : X.N.Nodup) (room : Room n X.A) (pass : PassesOwn (model X.prog X.w) X.A X.env X.xe) : Cz g X W (n + 1) :=
  ⟨hK, tk, fun _ => calm, nd, fun _ => room, fun _ => pass, by have := room.un; omega⟩
def SE (g : Gd) (X : Cx) (W : WX) (n : Nat) (e : Expr) (f : De) : Prop := Cz g X W n → PE X e (tE g W f)
def ST (g : Gd) (X : Cx) (W : WX) (n : Nat) (e : Expr) (f : Dt) : Prop := Cz g X W n → PT X e (tT g W f)
def SW (g : Gd) (X : Cx) (W : WX) (n : Nat) (e : Expr) (f : Dt) : Prop := Cz g X W n → PW X e (tT g W f)
def SA (g : Gd) (X : Cx) (W : WX) (n : Nat) (es : List Expr) (f : Da) : Prop := Cz g X W n → PA X es (tA g W f)
def SS (g : Gd) (X : Cx) (W : WX) (n : Nat) (s : Stmt) (f : Ds) : Prop := Cz g X W n → PS X s (tS g W f)
def SB (g : Gd) (X : Cx) (W : WX) (n : Nat) (s : List Stmt) (f : Ds) : Prop := Cz g X W n → PSs X s (tS g W f)
theorem _root_.L2.PE.imp {X : Cx} {e : Expr} {t t' : TE} (h : PE X e t) (q : ∀ σ H Q, t' σ H Q → t σ H Q) : PE X e t' := ⟨fun pins s σ H Q I w => h.run pins s σ H Q I (q _ _ _ w)⟩
theorem _root_.L2.PT.imp {X : Cx} {e : Expr} {t t' : TT} (h : PT X e t) (q : ∀ σ H Q, t' σ H Q → t σ H Q) : PT X e t' := ⟨fun pins s σ H Q I w => h.run pins s σ H Q I (q _ _ _ w)⟩
theorem _root_.L2.PW.imp {X : Cx} {e : Expr} {t t' : TT} (h : PW X e t) (q : ∀ σ H Q, t' σ H Q → t σ H Q) : PW X e t' := ⟨fun wh pins s σ H Q I w => h.run wh pins s σ H Q I (q _ _ _ w)⟩
theorem _root_.L2.PA.imp {X : Cx} {e : List Expr} {t t' : TA} (h : PA X e t) (q : ∀ σ H Q, t' σ H Q → t σ H Q) : PA X e t' := ⟨fun pos pins s σ H Q I w => h.run pos pins s σ H Q I (q _ _ _ w)⟩
theorem _root_.L2.PS.imp {X : Cx} {e : Stmt} {t t' : TS} (h : PS X e t) (q : ∀ D σ H, t' D σ H → t D σ H) : PS X e t' := ⟨fun pins s σ H D I w => h.run pins s σ H D I (q _ _ _ w)⟩
theorem _root_.L2.PSs.imp {X : Cx} {e : List Stmt} {t t' : TS} (h : PSs X e t) (q : ∀ D σ H, t' D σ H → t D σ H) : PSs X e t' := ⟨fun pins s σ H D I w => h.run pins s σ H D I (q _ _ _ w)⟩
end Wr
set_option Elab.async false
set_option linter.all false
set_option maxRecDepth 100000
set_option maxHeartbeats 4000000
set_option autoImplicit false
namespace Wr
open PySem PySem.Spec PyProof.Rows L2
section
variable {g : Gd} {W : WX} {σ : L2.St} {H : Hp} {ρ : List Addr} {s : Sg} {hp : Hs}
abbrev EW (W : WX) (σ : L2.St) : XK := fun c d H' => W c d σ H'
theorem bE {f : De} {k : Va → Hs → Rs Va} {Q : VK} {T : V → Hp → Prop} (h : PoE g ρ H ((f s hp).bind k) Q (EW W σ)) (R : Rh g ρ H hp) (L : Rsl g ρ H s σ)
    (hk : ∀ v h ρ1 H1 x, Sp1 ρ H ρ1 H1 → Rh g ρ1 H1 h → Rv g ρ1 H1 v x → Rsl g ρ1 H1 s σ → PoE g ρ1 H1 (k v h) Q (EW W σ) → T x H1) : tE g W f σ H T := by
  refine ⟨ρ, s, hp, R, L, ?_⟩
  cases q : f s hp with
  | ok v h1 => rw [q] at h; exact fun ρ1 H1 x S R1 r => hk v h1 ρ1 H1 x S R1 r (L.step R S) (PoE.at h S)
  | ex c h1 => rw [q] at h; exact h
  | no => rw [q] at h; exact h
theorem bT {f : De} {k : Va → Hs → Rs Bool} {Q : Bool → Hp → Prop} {T : V → Hp → Prop} (h : PoT g ρ H ((f s hp).bind k) Q (EW W σ)) (R : Rh g ρ H hp) (L : Rsl g ρ H s σ)
    (hk : ∀ v h ρ1 H1 x, Sp1 ρ H ρ1 H1 → Rh g ρ1 H1 h → Rv g ρ1 H1 v x → Rsl g ρ1 H1 s σ → PoT g ρ1 H1 (k v h) Q (EW W σ) → T x H1) : tE g W f σ H T := by
  refine ⟨ρ, s, hp, R, L, ?_⟩
  cases q : f s hp with
  | ok v h1 => rw [q] at h; exact fun ρ1 H1 x S R1 r => hk v h1 ρ1 H1 x S R1 r (L.step R S) (PoT.at h S)
  | ex c h1 => rw [q] at h; exact h
  | no => rw [q] at h; exact h
theorem bA {f : De} {k : Va → Hs → Rs (List Va)} {Q : List V → Hp → Prop} {T : V → Hp → Prop} (h : PoA g ρ H ((f s hp).bind k) Q (EW W σ)) (R : Rh g ρ H hp) (L : Rsl g ρ H s σ)
    (hk : ∀ v h ρ1 H1 x, Sp1 ρ H ρ1 H1 → Rh g ρ1 H1 h → Rv g ρ1 H1 v x → Rsl g ρ1 H1 s σ → PoA g ρ1 H1 (k v h) Q (EW W σ) → T x H1) : tE g W f σ H T := by
  refine ⟨ρ, s, hp, R, L, ?_⟩
  cases q : f s hp with
  | ok v h1 => rw [q] at h; exact fun ρ1 H1 x S R1 r => hk v h1 ρ1 H1 x S R1 r (L.step R S) (PoA.at h S)
  | ex c h1 => rw [q] at h; exact h
  | no => rw [q] at h; exact h
/-- a test first -/
theorem tBE {f : Dt} {k : Bool → Hs → Rs Va} {Q : VK} {T : Bool → Hp → Prop} (h : PoE g ρ H ((f s hp).bind k) Q (EW W σ)) (R : Rh g ρ H hp) (L : Rsl g ρ H s σ)
    (hk : ∀ v h ρ1 H1, Sp1 ρ H ρ1 H1 → Rh g ρ1 H1 h → Rsl g ρ1 H1 s σ → PoE g ρ1 H1 (k v h) Q (EW W σ) → T v H1) : tT g W f σ H T := by
  refine ⟨ρ, s, hp, R, L, ?_⟩
  cases q : f s hp with
  | ok v h1 => rw [q] at h; exact fun ρ1 H1 S R1 => hk v h1 ρ1 H1 S R1 (L.step R S) (PoE.at h S)
  | ex c h1 => rw [q] at h; exact h
  | no => rw [q] at h; exact h
theorem tBT {f : Dt} {k : Bool → Hs → Rs Bool} {Q : Bool → Hp → Prop} {T : Bool → Hp → Prop} (h : PoT g ρ H ((f s hp).bind k) Q (EW W σ)) (R : Rh g ρ H hp) (L : Rsl g ρ H s σ)
    (hk : ∀ v h ρ1 H1, Sp1 ρ H ρ1 H1 → Rh g ρ1 H1 h → Rsl g ρ1 H1 s σ → PoT g ρ1 H1 (k v h) Q (EW W σ) → T v H1) : tT g W f σ H T := by
  refine ⟨ρ, s, hp, R, L, ?_⟩
  cases q : f s hp with
  | ok v h1 => rw [q] at h; exact fun ρ1 H1 S R1 => hk v h1 ρ1 H1 S R1 (L.step R S) (PoT.at h S)
  | ex c h1 => rw [q] at h; exact h
  | no => rw [q] at h; exact h
/-- arguments first -/
theorem aBE {f : Da} {k : List Va → Hs → Rs Va} {Q : VK} {T : List V → Hp → Prop} (h : PoE g ρ H ((f s hp).bind k) Q (EW W σ)) (R : Rh g ρ H hp) (L : Rsl g ρ H s σ)
    (hk : ∀ v h ρ1 H1 x, Sp1 ρ H ρ1 H1 → Rh g ρ1 H1 h → Rvs g ρ1 H1 v x → Rsl g ρ1 H1 s σ → PoE g ρ1 H1 (k v h) Q (EW W σ) → T x H1) : tA g W f σ H T := by
  refine ⟨ρ, s, hp, R, L, ?_⟩
  cases q : f s hp with
  | ok v h1 => rw [q] at h; exact fun ρ1 H1 x S R1 r => hk v h1 ρ1 H1 x S R1 r (L.step R S) (PoE.at h S)
  | ex c h1 => rw [q] at h; exact h
  | no => rw [q] at h; exact h
theorem aBA {f : Da} {k : List Va → Hs → Rs (List Va)} {Q : List V → Hp → Prop} {T : List V → Hp → Prop} (h : PoA g ρ H ((f s hp).bind k) Q (EW W σ)) (R : Rh g ρ H hp) (L : Rsl g ρ H s σ)
    (hk : ∀ v h ρ1 H1 x, Sp1 ρ H ρ1 H1 → Rh g ρ1 H1 h → Rvs g ρ1 H1 v x → Rsl g ρ1 H1 s σ → PoA g ρ1 H1 (k v h) Q (EW W σ) → T x H1) : tA g W f σ H T := by
  refine ⟨ρ, s, hp, R, L, ?_⟩
  cases q : f s hp with
  | ok v h1 => rw [q] at h; exact fun ρ1 H1 x S R1 r => hk v h1 ρ1 H1 x S R1 r (L.step R S) (PoA.at h S)
  | ex c h1 => rw [q] at h; exact h
  | no => rw [q] at h; exact h
/-- .. in a statement -/
def Rs.bindS {α : Type} (r : Rs α) (s : Sg) (k : α → Hs → RS) : RS := match r with
  | .ok a h => k a h
  | .ex c h => .ex c s h
  | .no => .no
theorem bS {f : De} {k : Va → Hs → RS} {D : Ends} {T : V → Hp → Prop} (h : PoS g ρ H ((f s hp).bindS s k) D W) (R : Rh g ρ H hp) (L : Rsl g ρ H s σ)
    (hk : ∀ v h ρ1 H1 x, Sp1 ρ H ρ1 H1 → Rh g ρ1 H1 h → Rv g ρ1 H1 v x → Rsl g ρ1 H1 s σ → PoS g ρ1 H1 (k v h) D W → T x H1) : tE g W f σ H T := by
  refine ⟨ρ, s, hp, R, L, ?_⟩
  cases q : f s hp with
  | ok v h1 => rw [q] at h; exact fun ρ1 H1 x S R1 r => hk v h1 ρ1 H1 x S R1 r (L.step R S) (PoS.at h S)
  | ex c h1 => rw [q] at h; exact fun ρ1 H1 S R1 => h ρ1 H1 σ S R1 (L.step R S)
  | no => rw [q] at h; exact h
theorem tBS {f : Dt} {k : Bool → Hs → RS} {D : Ends} {T : Bool → Hp → Prop} (h : PoS g ρ H ((f s hp).bindS s k) D W) (R : Rh g ρ H hp) (L : Rsl g ρ H s σ)
    (hk : ∀ v h ρ1 H1, Sp1 ρ H ρ1 H1 → Rh g ρ1 H1 h → Rsl g ρ1 H1 s σ → PoS g ρ1 H1 (k v h) D W → T v H1) : tT g W f σ H T := by
  refine ⟨ρ, s, hp, R, L, ?_⟩
  cases q : f s hp with
  | ok v h1 => rw [q] at h; exact fun ρ1 H1 S R1 => hk v h1 ρ1 H1 S R1 (L.step R S) (PoS.at h S)
  | ex c h1 => rw [q] at h; exact fun ρ1 H1 S R1 => h ρ1 H1 σ S R1 (L.step R S)
  | no => rw [q] at h; exact h
theorem aBS {f : Da} {k : List Va → Hs → RS} {D : Ends} {T : List V → Hp → Prop} (h : PoS g ρ H ((f s hp).bindS s k) D W) (R : Rh g ρ H hp) (L : Rsl g ρ H s σ)
    (hk : ∀ v h ρ1 H1 x, Sp1 ρ H ρ1 H1 → Rh g ρ1 H1 h → Rvs g ρ1 H1 v x → Rsl g ρ1 H1 s σ → PoS g ρ1 H1 (k v h) D W → T x H1) : tA g W f σ H T := by
  refine ⟨ρ, s, hp, R, L, ?_⟩
  cases q : f s hp with
  | ok v h1 => rw [q] at h; exact fun ρ1 H1 x S R1 r => hk v h1 ρ1 H1 x S R1 r (L.step R S) (PoS.at h S)
  | ex c h1 => rw [q] at h; exact fun ρ1 H1 S R1 => h ρ1 H1 σ S R1 (L.step R S)
  | no => rw [q] at h; exact h
end
section
variable {g : Gd} {X : Cx} {W : WX} {n : Nat}
def dVar (i : Nat) : De := fun s h => match s[i]? with
  | some (some v) => .ok v h
  | _ => .no
def dC (v : Va) : De := fun _ h => .ok v h
theorem e_var (i : Nat) {x : Str} {pos : Pos} (hN : X.N[i]? = some x := by rfl) (hv : Vis X.env.scope x := by first | exact Or.inl rfl | exact Or.inr (Or.inl rfl) | exact Or.inr (Or.inr rfl)) (hd : (x == ("__debug__" : Str)) = false := by decide)
    (hcd : (x == ("__classdict__" : Str)) = false := by decide) : SE g X W n (.Name x pos) (dVar i) := by
  intro C
  refine (pe_var hN hv hd hcd).imp ?_
  rintro σ H Q ⟨ρ, s, hp, R, L, h⟩
  unfold dVar at h
  split at h
  · rename_i v q
    obtain ⟨x, e, r⟩ := L.at_ i v q
    exact ⟨x, e, h ρ H x (.refl _ _) R r⟩
  · exact h.elim
/-- what is a constant at every heap -/
def Steady (g : Gd) (v : Va) (x : V) : Prop := ∀ ρ H, Rv g ρ H v x
theorem e_tC {e : Expr} {v : Va} {x : V} (hp : PE X e (tC x)) (hs : Steady g v x) : PE X e (tE g W (dC v)) := by
  refine hp.imp ?_
  rintro σ H Q ⟨ρ, s, hp, R, L, h⟩
  exact h ρ H x (.refl _ _) R (hs ρ H)
theorem e_int {i : Int} {j : Nat} {pos : Pos} : SE g X W n (.Constant (.int i) j pos) (dC (.int i)) := fun _ => e_tC pe_int fun _ _ => by simp only [Rv]
theorem e_bl {b : Bool} {j : Nat} {pos : Pos} : SE g X W n (.Constant (.bool b) j pos) (dC (.bl b)) := fun _ => e_tC pe_bl fun _ _ => by simp only [Rv]
theorem e_non {j : Nat} {pos : Pos} : SE g X W n (.Constant .none j pos) (dC .non) := fun _ => e_tC pe_non fun _ _ => by simp only [Rv]
theorem e_str {x : Str} (y : Str) {j : Nat} {pos : Pos} (h : x = y := by rfl) : SE g X W n (.Constant (.str x) j pos) (dC (.str y)) := fun _ => by
  subst h
  exact e_tC pe_str fun _ _ => by simp only [Rv]
/-- a module's constant -/
theorem e_glob {x : Str} {v : Va} {y : V} {u : Value} {pos : Pos} (hm : X.mg x = some u) (r : RelV y u) (hs : Steady g v y) (hg : Gl X x := by rfl) (hd : (x == ("__debug__" : Str)) = false := by decide) : SE g X W n (.Name x pos) (dC v) :=
  fun _ => e_tC (pe_glob hg hm r hd) hs
theorem e_bltn {x : Str} {T : String} {u : Value} {pos : Pos} (hm : X.mg x = none) (hv : bootBuiltins x = some u) (r : RelV (.ty T) u) (hg : Gl X x := by rfl) (hn : x ≠ "__name__" := by decide) (hd : (x == ("__debug__" : Str)) = false := by decide) :
    SE g X W n (.Name x pos) (dC (.ty T)) := fun _ => e_tC (pe_bltn hg hm hv r hn hd) fun _ _ => by simp only [Rv]
def aNil : Da := fun _ h => .ok [] h
def aCons (f : De) (r : Da) : Da := fun s h => (f s h).bind fun x h1 => (r s h1).bind fun xs h2 => .ok (x :: xs) h2
theorem a_nil : SA g X W n [] aNil := fun _ => pa_nil.imp fun σ H Q ⟨ρ, s, hp, R, L, h⟩ => h ρ H [] (.refl _ _) R Rvs.nil
theorem a_cons {e : Expr} {es : List Expr} {f : De} {r : Da} (he : SE g X W n e f) (hr : SA g X W n es r) (hs : starEach (e :: es) X.env = (false, eval e X.env) :: starEach es X.env := by rfl) : SA g X W n (e :: es) (aCons f r) := by
  intro C
  refine (pa_cons (he C) (hr C) hs).imp ?_
  rintro σ H Q ⟨ρ, s, hp, R, L, h⟩
  refine bA h R L fun v h1 ρ1 H1 x S1 R1 r1 L1 p1 => ?_
  refine aBA p1 R1 L1 fun vs h2 ρ2 H2 xs S2 R2 r2 L2 p2 => ?_
  exact p2 ρ2 H2 (x :: xs) (.refl _ _) R2 (Rvs.cons (Rv.step R1 S2 _ _ r1) r2)
abbrev tupO (us : List Value) : Obj := { cls := .type "tuple", data := .seq us.toArray }
/-- a new tuple is laid -/
theorem laidN {pins : List (Addr × Obj)} {σ : L2.St} {H : Hp} {s : Shared} {h' : Heap} {p : Addr} {vs : List V} {us : List Value} {t' : Nat} (I : Inv X pins σ H s) (k : ∀ b u, s.heap.get? b = some u → h'.get? b = some u) (hp : s.heap.objs.size ≤ p)
    (e : h'.get? p = some (tupO us)) (r : Vals vs us) (hz : vs.length ≤ sizeLine) : Inv X pins σ (upd H p (.frz (tupO us) (.tup vs))) { s with heap := h', toks := t' } :=
  I.laid k hp ⟨e, hz, us, r, ⟨_, e, rfl, 0, rfl⟩⟩
/-- what a new tuple means to us -/
theorem new_tup {ρ : List Addr} {H : Hp} {hp : Hs} {xs : List Va} {vs : List V} {us : List Value} {p : Addr} (R : Rh g ρ H hp) (hn : H p = none) (r : Rvs g ρ H xs vs) :
    Sp1 ρ H ρ (upd H p (.frz (tupO us) (.tup vs))) ∧ Rh g ρ (upd H p (.frz (tupO us) (.tup vs))) hp ∧ Rv g ρ (upd H p (.frz (tupO us) (.tup vs))) (.tup xs) (.ref p) := by
  obtain ⟨S, R'⟩ := R.laid (u := .frz (tupO us) (.tup vs)) hn
  refine ⟨S, R', ?_⟩
  simp only [Rv]
  exact ⟨p, vs, rfl, .inl ⟨_, upd_same, rfl⟩, Rvs.step R S _ _ r⟩
def tTupN (t : TA) : TE := fun σ H Q => t σ H fun xs H1 => xs.length ≤ sizeLine ∧ ∀ p us, H1 p = none → Q (.ref p) (upd H1 p (.frz (tupO us) (.tup xs)))
theorem pe_tupN {es : List Expr} {t : TA} {x1 : Nat} {pos : Pos} (h : PA X es t) : PE X (.Tuple es x1 pos) (tTupN t) := by
  refine ⟨fun pins s σ H Q I hq => ?_⟩
  refine wpAny_Tuple_spliced (thn (h.run pos pins s σ H _ I hq) fun us s1 ⟨xs, H1, I1, r, z, q⟩ => ⟨by rw [← r.length]; exact z, ?_⟩)
  have hf : H1 s1.heap.objs.size = none := I1.hok.fresh (Nat.le_refl _)
  exact ⟨.ref s1.heap.objs.size, _, laidN (t' := s1.toks) I1 (fun b u e => Heap.get?_push_of_some _ e) (Nat.le_refl _) (Heap.get?_push_size _ rfl) r z, rfl, q _ us hf⟩
def okN (n : Nat) : Bool := decide (n ≤ 16777216)
theorem okN_le {n : Nat} (h : okN n = true) : n ≤ sizeLine := by
  have := of_decide_eq_true h
  rw [sizeLine_eq]; exact this
def dTup (f : Da) : De := fun s h => (f s h).bind fun xs h1 => if okN xs.length then .ok (.tup xs) h1 else .no
theorem e_tup {es : List Expr} {f : Da} {x1 : Nat} {pos : Pos} (he : SA g X W n es f) : SE g X W n (.Tuple es x1 pos) (dTup f) := by
  intro C
  refine (pe_tupN (he C)).imp ?_
  rintro σ H Q ⟨ρ, s, hp, R, L, h⟩
  refine aBE h R L fun vs h2 ρ2 H2 xs S2 R2 r2 L2 p2 => ?_
  by_cases hz : okN vs.length = true
  · rw [if_pos hz] at p2
    refine ⟨by rw [← r2.length]; exact okN_le hz, fun p us hn => ?_⟩
    obtain ⟨S3, R3, r3⟩ := new_tup (us := us) R2 hn r2
    exact p2 _ _ _ S3 R3 r3
  · rw [if_neg hz] at p2; exact p2.elim
/-- a new list, dict .. of ours -/
theorem new_lst {ρ : List Addr} {H : Hp} {hp : Hs} {xs : List Va} {vs : List V} {p : Addr} (R : Rh g ρ H hp) (hn : H p = none) (r : Rvs g ρ H xs vs) :
    Sp1 ρ H (ρ ++ [p]) (upd H p (.lst vs)) ∧ Rh g (ρ ++ [p]) (upd H p (.lst vs)) (hp ++ [.lst xs]) ∧ Rv g (ρ ++ [p]) (upd H p (.lst vs)) (.ref hp.length) (.ref p) := by
  obtain ⟨S, R'⟩ := R.new (u := .lst vs) (o := .lst xs) hn fun S => ⟨vs, upd_same, Rvs.step R S _ _ r⟩
  refine ⟨S, R', ?_⟩
  simp only [Rv]
  exact ⟨p, by rw [← R.len]; simp, rfl⟩
def mkL (xs : List Va) (h : Hs) : Rs Va := if okN xs.length then .ok (.ref h.length) (h ++ [.lst xs]) else .no
def dLst (f : Da) : De := fun s h => (f s h).bind mkL
theorem e_lst {es : List Expr} {f : Da} {pos : Pos} (he : SA g X W n es f) : SE g X W n (.List es pos) (dLst f) := by
  intro C
  refine (pe_lst (he C)).imp ?_
  rintro σ H Q ⟨ρ, s, hp, R, L, h⟩
  refine aBE h R L fun vs h2 ρ2 H2 xs S2 R2 r2 L2 p2 => ?_
  unfold mkL at p2
  by_cases hz : okN vs.length = true
  · rw [if_pos hz] at p2
    refine ⟨by rw [← r2.length]; exact okN_le hz, fun p hn => ?_⟩
    obtain ⟨S3, R3, r3⟩ := new_lst R2 hn r2
    exact p2 _ _ _ S3 R3 r3
  · rw [if_neg hz] at p2; exact p2.elim
abbrev K2 := Va → Va → Hs → Option (Va × Hs)
def liftO (o : Option (Va × Hs)) : Rs Va := match o with
  | some (v, h) => .ok v h
  | none => .no
/-- k tells what the rule r does -/
def P2 (g : Gd) (r : R2) (k : K2) : Prop := ∀ (ρ : List Addr) (H : Hp) (hp : Hs) (x y : Va) (vx vy : V) (v : Va) (h' : Hs) (Q : VK), Rh g ρ H hp → Rv g ρ H x vx → Rv g ρ H y vy → k x y hp = some (v, h') →
  (∀ ρ' H' z, Sp1 ρ H ρ' H' → Rh g ρ' H' h' → Rv g ρ' H' v z → Q z H') → r vx vy H Q
def dOp (k : K2) (fa fb : De) : De := fun s h => (fa s h).bind fun x h1 => (fb s h1).bind fun y h2 => liftO (k x y h2)
theorem op_imp {r : R2} {k : K2} (pk : P2 g r k) {fa fb : De} {σ : L2.St} {H : Hp} {Q : VK} (h : tE g W (dOp k fa fb) σ H Q) : tOp r (tE g W fa) (tE g W fb) σ H Q := by
  obtain ⟨ρ, s, hp, R, L, h⟩ := h
  refine bE h R L fun x h1 ρ1 H1 vx S1 R1 r1 L1 p1 => ?_
  refine bE p1 R1 L1 fun y h2 ρ2 H2 vy S2 R2 r2 L2 p2 => ?_
  cases q : k x y h2 with
  | none => rw [q] at p2; exact p2.elim
  | some w =>
    obtain ⟨v, h3⟩ := w
    rw [q] at p2
    exact pk ρ2 H2 h2 x y vx vy v h3 Q R2 (Rv.step R1 S2 _ _ r1) r2 q fun ρ3 H3 z S3 R3 r3 => p2 ρ3 H3 z S3 R3 r3
theorem e_op {op : Operator} {a b : Expr} {fa fb : De} {r : R2} {k : K2} {pos : Pos} (ho : ∀ X : Cx, X.K = g.K → OpR X (binaryOp op) r) (pk : P2 g r k) (ha : SE g X W n a fa) (hb : SE g X W n b fb) : SE g X W n (.BinOp a op b pos) (dOp k fa fb) :=
  fun C => (pe_op (ho X C.K) (ha C) (hb C)).imp fun _ _ _ h => op_imp pk h
/-- comparisons: the stack's room and calm are known -/
abbrev OpC (g : Gd) (op : CmpOp) (r : R2) : Prop := ∀ X : Cx, X.K = g.K → X.A.units + 100 < cLine → OpR X (compareOp op) r
theorem e_cmp {op : CmpOp} {a b : Expr} {fa fb : De} {r : R2} {k : K2} {pos : Pos} (ho : OpC g op r) (pk : P2 g r k) (ha : SE g X W n a fa) (hb : SE g X W n b fb) (hm : behindInMarks op b = false := by first | exact nomark _ | rfl) :
    SE g X W n (.Compare a [op] [b] pos) (dOp k fa fb) :=
  fun C => (pe_cmpR (ho X C.K C.units) (ha C) (hb C) hm).imp fun _ _ _ h => op_imp pk h
/-- .. as a test -/
def isB (v : Va) (h : Hs) : Rs Bool := match v with
  | .bl b => .ok b h
  | _ => .no
def dTest (f : De) : Dt := fun s h => (f s h).bind isB
theorem test_imp {f : De} {σ : L2.St} {H : Hp} {Q : Bool → Hp → Prop} (h : tT g W (dTest f) σ H Q) : tE g W f σ H (fun x H' => ∃ k, x = .bl k ∧ Q k H') := by
  obtain ⟨ρ, s, hp, R, L, h⟩ := h
  refine bT h R L fun x h1 ρ1 H1 vx S1 R1 r1 L1 p1 => ?_
  cases x with
  | bl b =>
    simp only [Rv] at r1
    exact ⟨b, r1, p1 ρ1 H1 (.refl _ _) R1⟩
  | _ => exact p1.elim
theorem t_cmp {op : CmpOp} {a b : Expr} {fa fb : De} {r : R2} {k : K2} {pos : Pos} (ho : OpC g op r) (pk : P2 g r k) (ha : SE g X W n a fa) (hb : SE g X W n b fb) (hm : behindInMarks op b = false := by first | exact nomark _ | rfl) :
    ST g X W n (.Compare a [op] [b] pos) (dTest (dOp k fa fb)) :=
  fun C => (pt_cmpR (ho X C.K C.units) (ha C) (hb C) hm).imp fun _ _ _ h => op_imp pk (test_imp h)
theorem t_val {e : Expr} {f : De} (h : SE g X W n e f) (he : ∀ whole, isTrue e X.env whole = (do let v ← whole; standAt e.pos; holding [v] (truthy v)) := by intro _; rfl) : ST g X W n e (dTest f) :=
  fun C => (pt_val (h C) he).imp fun _ _ _ q => test_imp q
/-- a op b op' c -/
def dChain (k k' : K2) (fa fb fc : De) : De := fun s h => (fa s h).bind fun x h1 => (fb s h1).bind fun y h2 => (liftO (k x y h2)).bind fun z h3 => match z with
  | .bl true => (fc s h3).bind fun w h4 => liftO (k' y w h4)
  | .bl false => .ok (.bl false) h3
  | _ => .no
theorem chain_imp {r r' : R2} {k k' : K2} (pk : P2 g r k) (pk' : P2 g r' k') {fa fb fc : De} {σ : L2.St} {H : Hp} {Q : VK} (h : tE g W (dChain k k' fa fb fc) σ H Q) :
    tChain r r' (tE g W fa) (tE g W fb) (tE g W fc) σ H Q := by
  obtain ⟨ρ, s, hp, R, L, h⟩ := h
  refine bE h R L fun x h1 ρ1 H1 vx S1 R1 r1 L1 p1 => ?_
  refine bE p1 R1 L1 fun y h2 ρ2 H2 vy S2 R2 r2 L2 p2 => ?_
  cases q : k x y h2 with
  | none => rw [q] at p2; exact p2.elim
  | some w =>
    obtain ⟨v, h3⟩ := w
    rw [q] at p2
    refine pk ρ2 H2 h2 x y vx vy v h3 _ R2 (Rv.step R1 S2 _ _ r1) r2 q fun ρ3 H3 z S3 R3 r3 => ?_
    have p3 := PoE.at p2 S3
    cases v with
    | bl b =>
      simp only [Rv] at r3
      refine ⟨b, r3, ?_⟩
      cases b with
      | true =>
        show tE g W fc σ H3 _
        refine bE p3 R3 (L2.step R2 S3) fun w h4 ρ4 H4 vw S4 R4 r4 L4 p4 => ?_
        cases q' : k' y w h4 with
        | none => rw [q'] at p4; exact p4.elim
        | some w' =>
          obtain ⟨v', h5⟩ := w'
          rw [q'] at p4
          exact pk' ρ4 H4 h4 y w vy vw v' h5 Q R4 (Rv.step R3 S4 _ _ (Rv.step R2 S3 _ _ r2)) r4 q' fun ρ5 H5 z S5 R5 r5 => p4 ρ5 H5 z S5 R5 r5
      | false =>
        show Q (.bl false) H3
        exact p3 ρ3 H3 _ (.refl _ _) R3 (by simp only [Rv])
    | _ => exact p3.elim
end
end Wr
set_option Elab.async false
set_option linter.all false
set_option maxRecDepth 100000
set_option maxHeartbeats 4000000
set_option autoImplicit false
namespace Wr
open PySem PySem.Spec PyProof.Rows L2
def idx : List Nat → Nat → Option Nat
  | [], _ => none
  | x :: t, j => if x == j then some 0 else (idx t j).map (· + 1)
theorem idx_get : ∀ {m : List Nat} {j i : Nat}, idx m j = some i → m[i]? = some j
  | [], _, _, h => by cases h
  | x :: t, j, i, h => by
    unfold idx at h
    by_cases e : (x == j) = true
    · rw [if_pos e] at h; cases h; simp at e; subst e; rfl
    · rw [if_neg e] at h
      obtain ⟨k, hk, rfl⟩ := Option.map_eq_some_iff.mp h
      simpa using idx_get hk
theorem idx_of : ∀ {m : List Nat} {j i : Nat}, m.Nodup → m[i]? = some j → idx m j = some i
  | [], _, _, _, h => by simp at h
  | x :: t, j, 0, _, h => by simp at h; subst h; simp [idx]
  | x :: t, j, i + 1, hn, h => by
    have hn' := List.nodup_cons.mp hn
    have h' : t[i]? = some j := by simpa using h
    have hne : (x == j) = false := by
      refine beq_eq_false_iff_ne.mpr fun e => hn'.1 ?_
      rw [e]; exact List.mem_of_getElem? h'
    unfold idx
    rw [hne]
    simp [idx_of hn'.2 h']
theorem idx_none {m : List Nat} {j : Nat} (hn : m.Nodup) (h : idx m j = none) : j ∉ m := fun hm => by
  obtain ⟨i, hi, e⟩ := List.getElem_of_mem hm
  rw [idx_of hn (show m[i]? = some j by rw [List.getElem?_eq_getElem hi, e])] at h
  cases h
def nodupB : List Nat → Bool
  | [] => true
  | x :: t => !(t.contains x) && nodupB t
theorem nodupB_ok : ∀ {m : List Nat}, nodupB m = true → m.Nodup
  | [], _ => List.nodup_nil
  | x :: t, h => by
    unfold nodupB at h
    rw [Bool.and_eq_true, Bool.not_eq_true'] at h
    refine List.nodup_cons.mpr ⟨fun hm => ?_, nodupB_ok h.2⟩
    have := List.contains_iff_mem.mpr hm
    rw [h.1] at this; cases this
mutual
def ren (f : Nat → Option Nat) : Va → Option Va
  | .ref i => (f i).map .ref
  | .tup xs => (rens f xs).map .tup
  | .non => some .non
  | .bl b => some (.bl b)
  | .int i => some (.int i)
  | .str x => some (.str x)
  | .ty n => some (.ty n)
  | .gl n => some (.gl n)
  | .scr => some .scr
  | .exc c => some (.exc c)
def rens (f : Nat → Option Nat) : List Va → Option (List Va)
  | [] => some []
  | x :: xs => match ren f x with
    | some a => match rens f xs with
      | some b => some (a :: b)
      | none => none
    | none => none
end
def renK {κ : Type} (f : Nat → Option Nat) : List (κ × Va) → Option (List (κ × Va))
  | [] => some []
  | (k, x) :: xs => match ren f x with
    | some a => match renK f xs with
      | some b => some ((k, a) :: b)
      | none => none
    | none => none
def renO (f : Nat → Option Nat) : Ob → Option Ob
  | .lst xs => (rens f xs).map .lst
  | .dK kvs => (renK f kvs).map .dK
  | .dT kvs => (renK f kvs).map .dT
  | .dU kvs => (renK f kvs).map .dU
  | .ins c fs => (renK f fs).map (.ins c)
  | .dF kvs => (renK f kvs).map .dF
section
variable {g : Gd} {ρ ρ' : List Addr} {H : Hp} {f : Nat → Option Nat}
def Moves (f : Nat → Option Nat) (ρ ρ' : List Addr) : Prop := ∀ (i j : Nat) (a : Addr), f i = some j → ρ[i]? = some a → ρ'[j]? = some a
mutual
theorem ren_ok (hf : Moves f ρ ρ') : ∀ (x : Va) (v : V) (x' : Va), Rv g ρ H x v → ren f x = some x' → Rv g ρ' H x' v
  | .ref i, v, x', h, e => by
    unfold ren at e
    obtain ⟨j, hj, rfl⟩ := Option.map_eq_some_iff.mp e
    simp only [Rv] at h ⊢
    obtain ⟨a, h1, h2⟩ := h
    exact ⟨a, hf i j a hj h1, h2⟩
  | .tup xs, v, x', h, e => by
    unfold ren at e
    obtain ⟨ys, hj, rfl⟩ := Option.map_eq_some_iff.mp e
    simp only [Rv] at h ⊢
    obtain ⟨a, vs, h1, h2, h3⟩ := h
    exact ⟨a, vs, h1, h2, rens_ok hf xs vs ys h3 hj⟩
  | .non, v, x', h, e => by unfold ren at e; cases e; simpa only [Rv] using h
  | .bl _, v, x', h, e => by unfold ren at e; cases e; simpa only [Rv] using h
  | .int _, v, x', h, e => by unfold ren at e; cases e; simpa only [Rv] using h
  | .str _, v, x', h, e => by unfold ren at e; cases e; simpa only [Rv] using h
  | .ty _, v, x', h, e => by unfold ren at e; cases e; simpa only [Rv] using h
  | .gl _, v, x', h, e => by unfold ren at e; cases e; simpa only [Rv] using h
  | .scr, v, x', h, e => by unfold ren at e; cases e; simpa only [Rv] using h
  | .exc _, v, x', h, e => by unfold ren at e; cases e; simpa only [Rv] using h
theorem rens_ok (hf : Moves f ρ ρ') : ∀ (x : List Va) (v : List V) (x' : List Va), Rvs g ρ H x v → rens f x = some x' → Rvs g ρ' H x' v
  | [], v, x', h, e => by unfold rens at e; cases e; simpa only [Rvs] using h
  | x :: xs, v, x', h, e => by
    unfold rens at e
    split at e
    · rename_i a ha
      split at e
      · rename_i b hb
        cases e
        simp only [Rvs] at h ⊢
        obtain ⟨w, r, h1, h2, h3⟩ := h
        exact ⟨w, r, h1, ren_ok hf x w a h2 ha, rens_ok hf xs r b h3 hb⟩
      · cases e
    · cases e
end
theorem renK_ok {κ : Type} (hf : Moves f ρ ρ') : ∀ (x : List (κ × Va)) (v : List (κ × V)) (x' : List (κ × Va)), Rkv g ρ H x v → renK f x = some x' → Rkv g ρ' H x' v
  | [], v, x', h, e => by unfold renK at e; cases e; exact h
  | (k, x) :: xs, v, x', h, e => by
    unfold renK at e
    split at e
    · rename_i a ha
      split at e
      · rename_i b hb
        cases e
        obtain ⟨w, r, h1, h2, h3⟩ := h
        exact ⟨w, r, h1, ren_ok hf x w a h2 ha, renK_ok hf xs r b h3 hb⟩
      · cases e
    · cases e
theorem renO_ok (hf : Moves f ρ ρ') {a : Addr} {o o' : Ob} (h : Ro g ρ H a o) (e : renO f o = some o') : Ro g ρ' H a o' := by
  cases o with
  | lst xs =>
    obtain ⟨ys, hy, rfl⟩ := Option.map_eq_some_iff.mp e
    obtain ⟨vs, h1, h2⟩ := h
    exact ⟨vs, h1, rens_ok hf _ _ _ h2 hy⟩
  | dK xs =>
    obtain ⟨ys, hy, rfl⟩ := Option.map_eq_some_iff.mp e
    obtain ⟨vs, h1, h2⟩ := h
    exact ⟨vs, h1, renK_ok hf _ _ _ h2 hy⟩
  | dT xs =>
    obtain ⟨ys, hy, rfl⟩ := Option.map_eq_some_iff.mp e
    obtain ⟨vs, h1, h2⟩ := h
    exact ⟨vs, h1, renK_ok hf _ _ _ h2 hy⟩
  | dU xs =>
    obtain ⟨ys, hy, rfl⟩ := Option.map_eq_some_iff.mp e
    obtain ⟨vs, h1, h2⟩ := h
    exact ⟨vs, h1, renK_ok hf _ _ _ h2 hy⟩
  | ins c xs =>
    obtain ⟨ys, hy, rfl⟩ := Option.map_eq_some_iff.mp e
    obtain ⟨dx, vs, h1, h2⟩ := h
    exact ⟨dx, vs, h1, renK_ok hf _ _ _ h2 hy⟩
  | dF xs =>
    obtain ⟨ys, hy, rfl⟩ := Option.map_eq_some_iff.mp e
    obtain ⟨dx, vs, h1, h2⟩ := h
    exact ⟨dx, vs, h1, renK_ok hf _ _ _ h2 hy⟩
end
/-- the objects at m -/
def selO (m : List Nat) (hp : Hs) : List Nat → Option Hs
  | [] => some []
  | i :: t => match hp[i]? with
    | some o => match renO (idx m) o with
      | some a => match selO m hp t with
        | some b => some (a :: b)
        | none => none
      | none => none
    | none => none
theorem selO_get {m : List Nat} {hp : Hs} : ∀ {t : List Nat} {h' : Hs}, selO m hp t = some h' → h'.length = t.length ∧ ∀ (k i : Nat), t[k]? = some i → ∃ o o', hp[i]? = some o ∧ h'[k]? = some o' ∧ renO (idx m) o = some o'
  | [], h', e => by unfold selO at e; cases e; exact ⟨rfl, fun k i h => by simp at h⟩
  | j :: t, h', e => by
    unfold selO at e
    split at e
    · rename_i o ho
      split at e
      · rename_i a ha
        split at e
        · rename_i b hb
          cases e
          obtain ⟨hl, hg⟩ := selO_get hb
          refine ⟨by simp [hl], fun k i h => ?_⟩
          cases k with
          | zero => simp at h; subst h; exact ⟨o, a, ho, rfl, ha⟩
          | succ k => simpa using hg k i (by simpa using h)
        · cases e
      · cases e
    · cases e
def pickA (ρ : List Addr) (m : List Nat) : List Addr := m.map fun i => ρ.getD i 0
theorem pickA_get {ρ : List Addr} {m : List Nat} {k i : Nat} {a : Addr} (h : m[k]? = some i) (ha : ρ[i]? = some a) : (pickA ρ m)[k]? = some a := by
  unfold pickA
  rw [List.getElem?_map, h]
  simp [List.getD, ha]
theorem sel_ok {g : Gd} {ρ : List Addr} {H : Hp} {hp h' : Hs} {m : List Nat} (R : Rh g ρ H hp) (hn : m.Nodup) (e : selO m hp m = some h') :
    Rh g (pickA ρ m) H h' ∧ Moves (idx m) ρ (pickA ρ m) ∧ (∀ b ∈ pickA ρ m, b ∈ ρ) ∧ (∀ (k i : Nat), m[k]? = some i → ∃ a, ρ[i]? = some a ∧ (pickA ρ m)[k]? = some a) := by
  obtain ⟨hl, hg⟩ := selO_get e
  have at_ : ∀ (k i : Nat), m[k]? = some i → ∃ a, ρ[i]? = some a ∧ (pickA ρ m)[k]? = some a := fun k i h => by
    obtain ⟨o, o', h1, h2, h3⟩ := hg k i h
    have hi : i < ρ.length := by rw [R.len]; exact (List.getElem?_eq_some_iff.mp h1).1
    exact ⟨ρ[i], List.getElem?_eq_getElem hi, pickA_get h (List.getElem?_eq_getElem hi)⟩
  have mv : Moves (idx m) ρ (pickA ρ m) := fun i j a h1 h2 => pickA_get (idx_get h1) h2
  have back : ∀ (k : Nat) (a : Addr), (pickA ρ m)[k]? = some a → ∃ i, m[k]? = some i ∧ ρ[i]? = some a := fun k a h => by
    have hk : k < m.length := by
      have := (List.getElem?_eq_some_iff.mp h).1
      simpa [pickA] using this
    obtain ⟨b, h1, h2⟩ := at_ k m[k] (List.getElem?_eq_getElem hk)
    rw [h] at h2; cases h2
    exact ⟨m[k], List.getElem?_eq_getElem hk, h1⟩
  refine ⟨⟨by simp [pickA, hl], ?_, R.tab, fun k a o' h1 h2 => ?_⟩, mv, fun b hb => ?_, at_⟩
  · rw [List.nodup_iff_pairwise_ne, List.pairwise_iff_getElem]
    intro i j hi hj hij e2
    obtain ⟨i', a1, b1⟩ := back i _ (List.getElem?_eq_getElem hi)
    obtain ⟨j', a2, b2⟩ := back j _ (List.getElem?_eq_getElem hj)
    rw [e2] at b1
    have e3 := nd_ix R.nd b1 b2
    subst e3
    have := idx_of hn a1
    rw [idx_of hn a2] at this
    cases this
    exact Nat.lt_irrefl _ hij
  · obtain ⟨i, e1, e2⟩ := back k a h1
    obtain ⟨o, o2, h3, h4, h5⟩ := hg k i e1
    rw [h2] at h4; cases h4
    exact renO_ok mv (R.obj i a o e2 h3) h5
  · obtain ⟨k, hk, e2⟩ := List.getElem_of_mem hb
    obtain ⟨i, _, e3⟩ := back k b (by rw [List.getElem?_eq_getElem hk, e2])
    exact List.mem_of_getElem? e3
mutual
def refsV : Va → List Nat
  | .ref i => [i]
  | .tup xs => refsVs xs
  | .non => []
  | .bl _ => []
  | .int _ => []
  | .str _ => []
  | .ty _ => []
  | .gl _ => []
  | .scr => []
  | .exc _ => []
def refsVs : List Va → List Nat
  | [] => []
  | x :: xs => refsV x ++ refsVs xs
end
def refsK {κ : Type} : List (κ × Va) → List Nat
  | [] => []
  | (_, x) :: xs => refsV x ++ refsK xs
def refsO : Ob → List Nat
  | .lst xs => refsVs xs
  | .dK kvs => refsK kvs
  | .dT kvs => refsK kvs
  | .dU kvs => refsK kvs
  | .ins _ fs => refsK fs
  | .dF kvs => refsK kvs
def reach : Nat → Hs → List Nat → List Nat → List Nat
  | 0, _, _, acc => acc
  | _ + 1, _, [], acc => acc
  | n + 1, hp, i :: t, acc => if acc.contains i then reach n hp t acc else match hp[i]? with
    | some o => reach n hp (refsO o ++ t) (acc ++ [i])
    | none => reach n hp t acc
def bkI (m : List Nat) (n i : Nat) : Option Nat := if i < m.length then m[i]? else some (n + (i - m.length))
def mix (m : List Nat) (os : Hs) : Nat → Hs → Hs
  | _, [] => []
  | j, o :: t => (match idx m j with
    | some i => os.getD i o
    | none => o) :: mix m os (j + 1) t
def renOs (f : Nat → Option Nat) : Hs → Option Hs
  | [] => some []
  | o :: t => match renO f o with
    | some a => match renOs f t with
      | some b => some (a :: b)
      | none => none
    | none => none
theorem renOs_get {f : Nat → Option Nat} : ∀ {h h' : Hs}, renOs f h = some h' → h'.length = h.length ∧ ∀ (k : Nat) (o : Ob), h[k]? = some o → ∃ o', h'[k]? = some o' ∧ renO f o = some o'
  | [], h', e => by unfold renOs at e; cases e; exact ⟨rfl, fun k o h => by simp at h⟩
  | x :: t, h', e => by
    unfold renOs at e
    split at e
    · rename_i a ha
      split at e
      · rename_i b hb
        cases e
        obtain ⟨hl, hg⟩ := renOs_get hb
        refine ⟨by simp [hl], fun k o h => ?_⟩
        cases k with
        | zero => simp at h; subst h; exact ⟨a, rfl, ha⟩
        | succ k => simpa using hg k o (by simpa using h)
      · cases e
    · cases e
theorem mix_len (m : List Nat) (os : Hs) : ∀ (hp : Hs) (j : Nat), (mix m os j hp).length = hp.length
  | [], _ => rfl
  | _ :: t, j => by simp [mix, mix_len m os t (j + 1)]
theorem mix_get (m : List Nat) (os : Hs) : ∀ (hp : Hs) (j k : Nat), (mix m os j hp)[k]? = hp[k]?.map fun o => match idx m (j + k) with
    | some i => os.getD i o
    | none => o
  | [], _, _ => by simp [mix]
  | o :: t, j, 0 => by simp [mix]
  | o :: t, j, k + 1 => by
    have := mix_get m os t (j + 1) k
    simp only [mix, List.getElem?_cons_succ, this]
    rw [show j + 1 + k = j + (k + 1) by omega]
def backH (m : List Nat) (hp h1 : Hs) : Option Hs := match renOs (bkI m hp.length) h1 with
  | some os => some (mix m os 0 hp ++ os.drop m.length)
  | none => none
def back (m : List Nat) (hp : Hs) : Rs Va → Rs Va
  | .ok v h1 => match ren (bkI m hp.length) v with
    | some v' => match backH m hp h1 with
      | some h2 => .ok v' h2
      | none => .no
    | none => .no
  | .ex c h1 => match backH m hp h1 with
    | some h2 => .ex c h2
    | none => .no
  | .no => .no
abbrev Fn := List Va → Hs → Rs Va
def callD (F : Fn) (args : List Va) (hp : Hs) : Rs Va :=
  let m := reach 300 hp (refsVs args) []
  if nodupB m then match rens (idx m) args with
    | some args' => match selO m hp m with
      | some h0 => back m hp (F args' h0)
      | none => .no
    | none => .no
  else .no
theorem back_ok {g : Gd} {ρ ρ1 : List Addr} {H H1 : Hp} {hp h0 h1 h2 : Hs} {m : List Nat} (R : Rh g ρ H hp) (hn : m.Nodup) (e : selO m hp m = some h0) (S1 : Sp1 (pickA ρ m) H ρ1 H1) (R1 : Rh g ρ1 H1 h1) (e2 : backH m hp h1 = some h2) :
    Sp1 ρ H (ρ ++ ρ1.drop m.length) H1 ∧ Rh g (ρ ++ ρ1.drop m.length) H1 h2 ∧ Moves (bkI m hp.length) ρ1 (ρ ++ ρ1.drop m.length) := by
  obtain ⟨R0, mv, sub, at_⟩ := sel_ok R hn e
  have pl : (pickA ρ m).length = m.length := by simp [pickA]
  have S : Sp1 ρ H (ρ ++ ρ1.drop m.length) H1 := by
    refine ⟨List.prefix_append _ _, fun b hb => ?_, fun b o hb hnb nt => S1.keep b o hb (fun z => hnb (sub b z)) nt, fun b o u hb => S1.frz b o u hb⟩
    rcases List.mem_append.mp hb with h | h
    · exact .inl h
    · rcases S1.new b (List.mem_of_mem_drop h) with q | q
      · exact .inl (sub b q)
      · exact .inr q
  have M : Moves (bkI m hp.length) ρ1 (ρ ++ ρ1.drop m.length) := fun i j a h1 h3 => by
    unfold bkI at h1
    by_cases hi : i < m.length
    · rw [if_pos hi] at h1
      obtain ⟨b, q1, q2⟩ := at_ i j h1
      have q3 := pre_get S1.pre q2
      rw [h3] at q3; cases q3
      rw [List.getElem?_append_left (List.getElem?_eq_some_iff.mp q1).1]
      exact q1
    · rw [if_neg hi] at h1
      have h1' := Option.some.inj h1
      rw [← h1', ← R.len, List.getElem?_append_right (Nat.le_add_right _ _)]
      rw [Nat.add_sub_cancel_left, List.getElem?_drop, show m.length + (i - m.length) = i by omega]
      exact h3
  refine ⟨S, ?_, M⟩
  unfold backH at e2
  split at e2
  · rename_i os hos
    cases e2
    obtain ⟨hl, hg⟩ := renOs_get hos
    have tk : ρ1.take m.length = pickA ρ m := by
      obtain ⟨c, hc⟩ := S1.pre
      rw [← hc, ← pl, List.take_left']
      rfl
    refine ⟨?_, ?_, R1.tab, fun j a o q1 q2 => ?_⟩
    · simp [mix_len, R.len, hl, R1.len]
    · rw [List.nodup_append]
      refine ⟨R.nd, R1.nd.sublist (List.drop_sublist _ _), fun a ha b hb e3 => ?_⟩
      subst e3
      rcases S1.new a (List.mem_of_mem_drop hb) with q | q
      · have nd := R1.nd
        rw [← List.take_append_drop m.length ρ1, tk, List.nodup_append] at nd
        exact nd.2.2 a q a hb rfl
      · exact R.clash ha q
    · by_cases hj : j < ρ.length
      · rw [List.getElem?_append_left hj] at q1
        rw [List.getElem?_append_left (by rw [mix_len, ← R.len]; exact hj), mix_get, Nat.zero_add] at q2
        obtain ⟨o0, ho0, q2⟩ := Option.map_eq_some_iff.mp q2
        cases hi : idx m j with
        | some i =>
          rw [hi] at q2
          have hm := idx_get hi
          obtain ⟨b, c1, c2⟩ := at_ i j hm
          rw [q1] at c1; cases c1
          have c3 := pre_get S1.pre c2
          have hil : i < h1.length := by rw [← R1.len]; exact (List.getElem?_eq_some_iff.mp c3).1
          obtain ⟨o', d1, d2⟩ := hg i h1[i] (List.getElem?_eq_getElem hil)
          simp only [List.getD, d1, Option.getD_some] at q2
          subst q2
          exact renO_ok M (R1.obj i a _ c3 (List.getElem?_eq_getElem hil)) d2
        | none =>
          rw [hi] at q2
          subst q2
          have q := R.obj j a o0 q1 ho0
          have nm : a ∉ pickA ρ m := fun z => by
            obtain ⟨k, hk, e3⟩ := List.getElem_of_mem z
            have hk' : k < m.length := by rw [← pl]; exact hk
            obtain ⟨b, c1, c2⟩ := at_ k m[k] (List.getElem?_eq_getElem hk')
            rw [List.getElem?_eq_getElem hk, e3] at c2
            cases c2
            have := nd_ix R.nd c1 q1
            exact idx_none hn hi (this ▸ List.getElem_mem hk')
          have qnt : ∀ u, H a = some u → NT u := fun u z => q.nt z
          cases o0 with
          | lst xs => obtain ⟨vs, e3, r⟩ := q; exact ⟨vs, S1.keep _ _ e3 nm (fun _ z => nomatch z), Rvs.step R S _ _ r⟩
          | dK xs => obtain ⟨vs, e3, r⟩ := q; exact ⟨vs, S1.keep _ _ e3 nm (fun _ z => nomatch z), Rkv.step R S _ _ r⟩
          | dT xs => obtain ⟨vs, e3, r⟩ := q; exact ⟨vs, e3.keep (fun _ z => S1.keep _ _ z nm (qnt _ z)) (fun _ _ z => SqN.step R S z), Rkv.step R S _ _ r⟩
          | dU xs => obtain ⟨vs, e3, r⟩ := q; exact ⟨vs, e3.keep (fun _ z => S1.keep _ _ z nm (qnt _ z)) (fun _ _ z => SqN.step R S z), Rkv.step R S _ _ r⟩
          | ins c xs => obtain ⟨dx, vs, e3, r⟩ := q; exact ⟨dx, vs, S1.keep _ _ e3 nm (fun _ z => nomatch z), Rkv.step R S _ _ r⟩
          | dF xs => obtain ⟨dx, vs, e3, r⟩ := q; exact ⟨dx, vs, S1.keep _ _ e3 nm (fun _ z => nomatch z), Rkv.step R S _ _ r⟩
      · rw [List.getElem?_append_right (by omega)] at q1
        rw [List.getElem?_append_right (by rw [mix_len, ← R.len]; omega), mix_len, ← R.len] at q2
        rw [List.getElem?_drop] at q1 q2
        have hil : m.length + (j - ρ.length) < h1.length := by rw [← R1.len]; exact (List.getElem?_eq_some_iff.mp q1).1
        obtain ⟨o', d1, d2⟩ := hg _ h1[m.length + (j - ρ.length)] (List.getElem?_eq_getElem hil)
        rw [d1] at q2; cases q2
        exact renO_ok M (R1.obj _ a _ q1 (List.getElem?_eq_getElem hil)) d2
  · cases e2
def spD (g : Gd) (np : Nat) (F : Fn) : Sp := fun vs H Q E => vs.length = np ∧ ∃ ρ hp xs, Rh g ρ H hp ∧ Rvs g ρ H xs vs ∧ PoE g ρ H (F xs hp) Q E
theorem sp_call {g : Gd} {np : Nat} {F : Fn} {ρ : List Addr} {H : Hp} {hp : Hs} {xs : List Va} {vs : List V} {Q : VK} {E : XK} (R : Rh g ρ H hp) (r : Rvs g ρ H xs vs) (hl : vs.length = np) (h : PoE g ρ H (callD F xs hp) Q E) : spD g np F vs H Q E := by
  unfold callD at h
  simp only at h
  generalize reach 300 hp (refsVs xs) [] = m at h
  by_cases hm : nodupB m = true
  · rw [if_pos hm] at h
    have hn := nodupB_ok hm
    split at h
    · rename_i args' ha
      split at h
      · rename_i h0 e
        obtain ⟨R0, mv, sub, at_⟩ := sel_ok R hn e
        refine ⟨hl, pickA ρ m, h0, args', R0, rens_ok mv _ _ _ r ha, ?_⟩
        cases q : F args' h0 with
        | ok v h1 =>
          intro ρ1 H1 x S1 R1 r1
          rw [q] at h
          simp only [back] at h
          split at h
          · rename_i v' hv
            split at h
            · rename_i h2 e2
              obtain ⟨S, R2, M⟩ := back_ok R hn e S1 R1 e2
              exact h _ H1 x S R2 (ren_ok M _ _ _ r1 hv)
            · exact h.elim
          · exact h.elim
        | ex c h1 =>
          intro ρ1 H1 S1 R1
          rw [q] at h
          simp only [back] at h
          split at h
          · rename_i h2 e2
            obtain ⟨S, R2, M⟩ := back_ok R hn e S1 R1 e2
            exact h _ H1 S R2
          · exact h.elim
        | no => rw [q] at h; exact h
      · exact h.elim
    · exact h.elim
  · rw [if_neg hm] at h; exact h.elim
section
variable {g : Gd} {X : Cx} {W : WX} {n : Nat}
/-- f(..) of a def of the text -/
def dCall (F : Fn) (np : Nat) (a : Da) : De := fun s h => (a s h).bind fun xs h1 => if xs.length == np then callD F xs h1 else .no
theorem e_call {f : Addr} {fd : FuncData} {ps : List Str} {k np : Nat} {F : Fn} {x : Str} {p pos : Pos} {e : Expr} {es : List Expr} {a : Da}
    (FO : FnOk X.prog X.w X.K X.mg X.base (CXM X.prog X.w) k f fd ps (spD g np F)) (hb : Binds X.K fd ps []) (hm : X.mg x = some (.ref f)) (hk : PySem.W.keepIn X.K (.ref f) = true) (hkn : k ≤ n)
    (ha : SA g X W (n + 1) (e :: es) a) (hg : Gl X x := by rfl) (hdb : (x == ("__debug__" : Str)) = false := by decide) (he : starEach (e :: es) X.env = (false, eval e X.env) :: starEach es X.env := by rfl) (hpl : (backTo pos (starEach es X.env)).any (·.1) = false := by rfl) :
    SE g X W (n + 1) (.Call (.Name x p) (e :: es) [] pos) (dCall F np a) := by
  intro C
  refine (pe_callS (E := WE W) FO (C.room.mono hkn) hg hm hk hb (fun σ => passAt C.tk σ) (ha C) hdb he hpl).imp ?_
  rintro σ H Q ⟨ρ, s, hp, R, L, h⟩
  refine aBE h R L fun vs h2 ρ2 H2 xs S2 R2 r2 L2 p2 => ?_
  by_cases hl : (vs.length == np) = true
  · rw [if_pos hl] at p2
    exact sp_call R2 r2 (by rw [← r2.length]; simpa using hl) p2
  · rw [if_neg hl] at p2; exact p2.elim
end
end Wr
set_option Elab.async false
set_option linter.all false
set_option maxRecDepth 100000
set_option maxHeartbeats 4000000
set_option autoImplicit false
namespace Wr
open PySem PySem.Spec PyProof.Rows L2
structure Tst (g : Gd) (H H' : Hp) : Prop where
  tup : ∀ a vs, SqN g.K H a vs → SqN g.K H' a vs
  scr : ScrAt g H → ScrAt g H'
  exc : ∀ c v, ExV g H c v → ExV g H' c v
section
variable {g : Gd} {ρ ρ' : List Addr} {H H' : Hp} {hp : Hs}
mutual
theorem Rv.tst (T : Tst g H H') (hr : ρ <+: ρ') : ∀ (x : Va) (v : V), Rv g ρ H x v → Rv g ρ' H' x v
  | .non, _, h => by simpa only [Rv] using h
  | .bl _, _, h => by simpa only [Rv] using h
  | .int _, _, h => by simpa only [Rv] using h
  | .str _, _, h => by simpa only [Rv] using h
  | .ty _, _, h => by simpa only [Rv] using h
  | .gl _, _, h => by simpa only [Rv] using h
  | .scr, _, h => by
    simp only [Rv] at h ⊢
    exact ⟨h.1, T.scr h.2⟩
  | .exc c, _, h => by
    simp only [Rv] at h ⊢
    exact T.exc _ _ h
  | .ref i, _, h => by
    simp only [Rv] at h ⊢
    obtain ⟨a, e, h⟩ := h
    exact ⟨a, pre_get hr e, h⟩
  | .tup xs, _, h => by
    simp only [Rv] at h ⊢
    obtain ⟨a, vs, e, q, r⟩ := h
    exact ⟨a, vs, e, T.tup a vs q, Rvs.tst T hr xs vs r⟩
theorem Rvs.tst (T : Tst g H H') (hr : ρ <+: ρ') : ∀ (x : List Va) (v : List V), Rvs g ρ H x v → Rvs g ρ' H' x v
  | [], _, h => by simpa only [Rvs] using h
  | x :: xs, _, h => by
    simp only [Rvs] at h ⊢
    obtain ⟨v, r, e, h1, h2⟩ := h
    exact ⟨v, r, e, Rv.tst T hr x v h1, Rvs.tst T hr xs r h2⟩
end
theorem Rkv.tst {κ : Type} (T : Tst g H H') (hr : ρ <+: ρ') : ∀ (x : List (κ × Va)) (v : List (κ × V)), Rkv g ρ H x v → Rkv g ρ' H' x v
  | [], _, h => h
  | (k, x) :: xs, _, h => by
    obtain ⟨v, r, e, h1, h2⟩ := h
    exact ⟨v, r, e, Rv.tst T hr x v h1, Rkv.tst T hr xs r h2⟩
theorem Tst.upd {D : Addr} {l : List V} {o : HO} (h : H D = some (.lst l)) : Tst g H (upd H D o) := by
  refine ⟨fun a vs q => ?_, fun q => ?_, fun c v ⟨a, oe, e, q, r⟩ => ⟨a, oe, e, q.imp (fun q => by rw [upd_ne (ne_of q h (by intro z; cases z))]; exact q) id, r⟩⟩
  · rcases q with ⟨u, q, d⟩ | q
    · exact .inl ⟨u, by rw [upd_ne (ne_of q h (by intro z; cases z))]; exact q, d⟩
    · exact .inr q
  · rcases q with ⟨u, q⟩ | q
    · exact .inl ⟨u, by rw [upd_ne (ne_of q h (by intro z; cases z))]; exact q⟩
    · exact .inr q
def Pl : HO → Prop
  | .lst _ => True
  | .dK _ => True
  | _ => False
/-- what is not ours is changed -/
theorem Rh.other (R : Rh g ρ H hp) {D : Addr} {o : HO} (T : Tst g H (upd H D o)) (hD : D ∉ ρ) (hpl : ∀ u, H D = some u → Pl u) : Rh g ρ (upd H D o) hp := by
  refine ⟨R.len, R.nd, fun p hpT => ?_, fun i a x h1 h2 => ?_⟩
  · obtain ⟨ps, h1, h2, h3⟩ := R.tab p hpT
    refine ⟨ps, by rw [upd_ne (show p.1 ≠ D from fun z => (show Pl (.tbl ps) from hpl _ (by rw [← z]; exact h1)).elim)]; exact h1, h2, fun pos cv hc => ?_⟩
    obtain ⟨c, e1, e2⟩ := h3 pos cv hc
    exact ⟨c, e1, by rw [upd_ne (show c ≠ D from fun z => (show Pl (LamX.CodeO c p.2) from hpl _ (by rw [← z]; exact e2)).elim)]; exact e2⟩
  have q := R.obj i a x h1 h2
  have hne : a ≠ D := fun e => hD (e ▸ List.mem_of_getElem? h1)
  have pr : ρ <+: ρ := List.prefix_refl _
  cases x with
  | lst xs => obtain ⟨vs, e, r⟩ := q; exact ⟨vs, by rw [upd_ne hne]; exact e, Rvs.tst T pr _ _ r⟩
  | dK xs => obtain ⟨vs, e, r⟩ := q; exact ⟨vs, by rw [upd_ne hne]; exact e, Rkv.tst T pr _ _ r⟩
  | dT xs => obtain ⟨vs, e, r⟩ := q; exact ⟨vs, e.keep (fun _ z => by rw [upd_ne hne]; exact z) T.1, Rkv.tst T pr _ _ r⟩
  | dU xs => obtain ⟨vs, e, r⟩ := q; exact ⟨vs, e.keep (fun _ z => by rw [upd_ne hne]; exact z) T.1, Rkv.tst T pr _ _ r⟩
  | ins c xs => obtain ⟨dx, vs, e, r⟩ := q; exact ⟨dx, vs, by rw [upd_ne hne]; exact e, Rkv.tst T pr _ _ r⟩
  | dF xs => obtain ⟨dx, vs, e, r⟩ := q; exact ⟨dx, vs, by rw [upd_ne hne]; exact e, Rkv.tst T pr _ _ r⟩
/-- what stands there becomes ours -/
theorem Rh.take (R : Rh g ρ H hp) {D : Addr} {l : List V} {xs : List Va} (hD : D ∉ ρ) (h : H D = some (.lst l)) (r : Rvs g ρ H xs l) : Rh g (ρ ++ [D]) H (hp ++ [.lst xs]) := by
  have T : Tst g H H := ⟨fun _ _ q => q, fun q => q, fun _ _ q => q⟩
  have pr : ρ <+: ρ ++ [D] := List.prefix_append _ _
  refine ⟨by simp [R.len], ?_, R.tab, fun i a x h1 h2 => ?_⟩
  · rw [List.nodup_append]
    refine ⟨R.nd, by simp, fun a ha b hb e => ?_⟩
    obtain rfl := List.mem_singleton.mp hb
    subst e; exact hD ha
  · by_cases hi : i < ρ.length
    · rw [List.getElem?_append_left hi] at h1
      rw [List.getElem?_append_left (by rw [← R.len]; exact hi)] at h2
      have q := R.obj i a x h1 h2
      cases x with
      | lst xs => obtain ⟨vs, e, r⟩ := q; exact ⟨vs, e, Rvs.tst T pr _ _ r⟩
      | dK xs => obtain ⟨vs, e, r⟩ := q; exact ⟨vs, e, Rkv.tst T pr _ _ r⟩
      | dT xs => obtain ⟨vs, e, r⟩ := q; exact ⟨vs, e, Rkv.tst T pr _ _ r⟩
      | dU xs => obtain ⟨vs, e, r⟩ := q; exact ⟨vs, e, Rkv.tst T pr _ _ r⟩
      | ins c xs => obtain ⟨dx, vs, e, r⟩ := q; exact ⟨dx, vs, e, Rkv.tst T pr _ _ r⟩
      | dF xs => obtain ⟨dx, vs, e, r⟩ := q; exact ⟨dx, vs, e, Rkv.tst T pr _ _ r⟩
    · have hi2 : i = ρ.length := by
        have := (List.getElem?_eq_some_iff.mp h1).1
        simp at this; omega
      subst hi2
      simp at h1
      subst h1
      rw [R.len] at h2
      simp at h2
      subst h2
      exact ⟨l, h, Rvs.tst T pr _ _ r⟩
end
section
variable {g : Gd} {X : Cx} {W : WX} {n : Nat} {a b : Expr} {rest : List Expr} {pos : Pos}
def dNot (f : Dt) : Dt := fun s h => (f s h).bind fun c h1 => .ok (!c) h1
theorem t_not {f : Dt} (h : ST g X W n a f) : ST g X W n (.UnaryOp .Not a pos) (dNot f) := by
  intro C
  refine (pt_not (h C)).imp ?_
  rintro σ H Q ⟨ρ, s, hp, R, L, h⟩
  exact tBT h R L fun v h1 ρ1 H1 S1 R1 L1 p1 => p1 ρ1 H1 (.refl _ _) R1
def dAnd (f k : Dt) : Dt := fun s h => (f s h).bind fun c h1 => match c with
  | true => k s h1
  | false => .ok false h1
def dOr (f k : Dt) : Dt := fun s h => (f s h).bind fun c h1 => match c with
  | true => .ok true h1
  | false => k s h1
theorem w_and1 {f : Dt} (h : ST g X W n a f) : SW g X W n (.BoolOp .And [a] pos) f := fun C => pw_and1 (h C)
theorem w_or1 {f : Dt} (h : ST g X W n a f) : SW g X W n (.BoolOp .Or [a] pos) f := fun C => pw_or1 (h C)
theorem w_and {f k : Dt} (h : ST g X W n a f) (h' : SW g X W n (.BoolOp .And (b :: rest) pos) k) : SW g X W n (.BoolOp .And (a :: b :: rest) pos) (dAnd f k) := by
  intro C
  refine (pw_and (h C) (h' C)).imp ?_
  rintro σ H Q ⟨ρ, s, hp, R, L, h⟩
  refine tBT h R L fun v h1 ρ1 H1 S1 R1 L1 p1 => ?_
  cases v with
  | true => exact ⟨ρ1, s, h1, R1, L1, p1⟩
  | false => exact p1 ρ1 H1 (.refl _ _) R1
theorem w_or {f k : Dt} (h : ST g X W n a f) (h' : SW g X W n (.BoolOp .Or (b :: rest) pos) k) : SW g X W n (.BoolOp .Or (a :: b :: rest) pos) (dOr f k) := by
  intro C
  refine (pw_or (h C) (h' C)).imp ?_
  rintro σ H Q ⟨ρ, s, hp, R, L, h⟩
  refine tBT h R L fun v h1 ρ1 H1 S1 R1 L1 p1 => ?_
  cases v with
  | true => exact p1 ρ1 H1 (.refl _ _) R1
  | false => exact ⟨ρ1, s, h1, R1, L1, p1⟩
theorem t_bool {e : Expr} {f : Dt} (h : SW g X W n e f) : ST g X W n e f := fun C => (h C).pt
theorem e_chain {op op' : CmpOp} {c : Expr} {fa fb fc : De} {r r' : R2} {k k' : K2} (ho : OpC g op r) (ho' : OpC g op' r') (pk : P2 g r k) (pk' : P2 g r' k') (ha : SE g X W n a fa) (hb : SE g X W n b fb) (hc : SE g X W n c fc)
    (hm : lastMarks [op, op'] [b, c] = false := by rfl) : SE g X W n (.Compare a [op, op'] [b, c] pos) (dChain k k' fa fb fc) :=
  fun C => (pe_chain (ho X C.K C.units) (ho' X C.K C.units) (ha C) (hb C) (hc C) hm).imp fun _ _ _ h => chain_imp pk pk' h
def dAndV (f k : De) : De := fun s h => (f s h).bind fun c h1 => match c with
  | .bl true => k s h1
  | .bl false => .ok (.bl false) h1
  | _ => .no
def dOrV (f k : De) : De := fun s h => (f s h).bind fun c h1 => match c with
  | .bl true => .ok (.bl true) h1
  | .bl false => k s h1
  | _ => .no
def dNotV (f : De) : De := fun s h => (f s h).bind fun c h1 => match c with
  | .bl c => .ok (.bl (!c)) h1
  | _ => .no
theorem e_one {op : BoolOp} {f : De} (h : SE g X W n a f) : SE g X W n (.BoolOp op [a] pos) f := fun C => pe_one (h C)
theorem e_and {f k : De} (h : SE g X W n a f) (h' : SE g X W n (.BoolOp .And (b :: rest) pos) k) : SE g X W n (.BoolOp .And (a :: b :: rest) pos) (dAndV f k) := by
  intro C
  refine (pe_and (h C) (h' C)).imp ?_
  rintro σ H Q ⟨ρ, s, hp, R, L, h⟩
  refine bE h R L fun v h1 ρ1 H1 x S1 R1 r1 L1 p1 => ?_
  cases v with
  | bl c =>
    simp only [Rv] at r1
    refine ⟨c, r1, ?_⟩
    cases c with
    | true => exact ⟨ρ1, s, h1, R1, L1, p1⟩
    | false => exact p1 ρ1 H1 _ (.refl _ _) R1 (by simp only [Rv])
  | _ => exact p1.elim
theorem e_not {f : De} (h : SE g X W n a f) : SE g X W n (.UnaryOp .Not a pos) (dNotV f) := by
  intro C
  refine (pe_not (h C)).imp ?_
  rintro σ H Q ⟨ρ, s, hp, R, L, h⟩
  refine bE h R L fun v h1 ρ1 H1 x S1 R1 r1 L1 p1 => ?_
  cases v with
  | bl c =>
    simp only [Rv] at r1
    exact ⟨c, r1, p1 ρ1 H1 _ (.refl _ _) R1 (by simp only [Rv])⟩
  | _ => exact p1.elim
def dIf (t : Dt) (f k : De) : De := fun s h => (t s h).bind fun c h1 => match c with
  | true => f s h1
  | false => k s h1
theorem e_if {c : Expr} {t : Dt} {f k : De} (hc : ST g X W n c t) (h : SE g X W n a f) (h' : SE g X W n b k) : SE g X W n (.IfExp c a b pos) (dIf t f k) := by
  intro C
  refine (pe_ifExp (hc C) (h C) (h' C)).imp ?_
  rintro σ H Q ⟨ρ, s, hp, R, L, h⟩
  refine tBE h R L fun v h1 ρ1 H1 S1 R1 L1 p1 => ?_
  cases v with
  | true => exact ⟨ρ1, s, h1, R1, L1, p1⟩
  | false => exact ⟨ρ1, s, h1, R1, L1, p1⟩
variable {st : Stmt} {sts : List Stmt} {e : Expr}
def dNx : Ds := fun s h => .nx s h
def dSeq (f k : Ds) : Ds := fun s h => match f s h with
  | .nx s1 h1 => k s1 h1
  | .rt v h1 => .rt v h1
  | .bk s1 h1 => .bk s1 h1
  | .ct s1 h1 => .ct s1 h1
  | .ex c s1 h1 => .ex c s1 h1
  | .no => .no
theorem b_nil : SB g X W n [] dNx := fun _ => pss_nil.imp fun D σ H ⟨ρ, s, hp, R, L, h⟩ => h ρ H σ (.refl _ _) R L
theorem b_cons {f k : Ds} (h : SS g X W n st f) (h' : SB g X W n sts k) : SB g X W n (st :: sts) (dSeq f k) := by
  intro C
  refine (pss_cons (h C) (h' C)).imp ?_
  rintro D σ H ⟨ρ, s, hp, R, L, h⟩
  refine ⟨ρ, s, hp, R, L, ?_⟩
  unfold dSeq at h
  cases q : f s hp with
  | nx s1 h1 => rw [q] at h; exact fun ρ1 H1 σ1 S1 R1 L1 => ⟨ρ1, s1, h1, R1, L1, PoS.at h S1⟩
  | rt v h1 => rw [q] at h; exact h
  | bk s1 h1 => rw [q] at h; exact h
  | ct s1 h1 => rw [q] at h; exact h
  | ex c s1 h1 => rw [q] at h; exact h
  | no => rw [q] at h; exact h
theorem b_one {f : Ds} (h : SS g X W n st f) : SB g X W n [st] f := fun C => pss_one (h C)
def dCt : Ds := fun s h => .ct s h
def dExpr (f : De) : Ds := fun s h => (f s h).bindS s fun _ h1 => .nx s h1
theorem s_expr {f : De} (h : SE g X W n e f) (hs : swapsWith e none pos.line X.env = pure false := by rfl) : SS g X W n (.Expr e pos) (dExpr f) := by
  intro C
  refine (ps_expr (h C) hs).imp ?_
  rintro D σ H ⟨ρ, s, hp, R, L, h⟩
  exact bS h R L fun v h1 ρ1 H1 x S1 R1 r1 L1 p1 => p1 ρ1 H1 σ (.refl _ _) R1 L1
def dRet (f : De) : Ds := fun s h => (f s h).bindS s fun v h1 => .rt v h1
theorem s_ret {f : De} (h : SE g X W n e f) : SS g X W n (.Return (some e) pos) (dRet f) := by
  intro C
  refine (ps_ret (h C)).imp ?_
  rintro D σ H ⟨ρ, s, hp, R, L, h⟩
  exact bS h R L fun v h1 ρ1 H1 x S1 R1 r1 L1 p1 => p1 ρ1 H1 x (.refl _ _) R1 r1
def dIfS (t : Dt) (f k : Ds) : Ds := fun s h => (t s h).bindS s fun c h1 => match c with
  | true => f s h1
  | false => k s h1
theorem s_if {c : Expr} {x y : List Stmt} {t : Dt} {f k : Ds} (hc : ST g X W n c t) (h : SB g X W n x f) (h' : SB g X W n y k) : SS g X W n (.If c x y pos) (dIfS t f k) := by
  intro C
  refine (ps_if (hc C) (h C) (h' C)).imp ?_
  rintro D σ H ⟨ρ, s, hp, R, L, h⟩
  refine tBS h R L fun v h1 ρ1 H1 S1 R1 L1 p1 => ?_
  cases v with
  | true => exact ⟨ρ1, s, h1, R1, L1, p1⟩
  | false => exact ⟨ρ1, s, h1, R1, L1, p1⟩
def dSet (i : Nat) (f : De) : Ds := fun s h => (f s h).bindS s fun v h1 => .nx (s.set i (some v)) h1
theorem set_imp {i : Nat} {f : De} {D : Ends} {σ : L2.St} {H : Hp} (h : tS g W (dSet i f) D σ H) : tAsg (tE g W f) (gName i) D σ H := by
  obtain ⟨ρ, s, hp, R, L, h⟩ := h
  exact bS h R L fun v h1 ρ1 H1 x S1 R1 r1 L1 p1 => p1 ρ1 H1 _ (.refl _ _) R1 (L1.set i r1)
theorem s_set (i : Nat) {x : Str} {f : De} {pos' : Pos} (he : SE g X W n e f) (hi : X.N[i]? = some x := by rfl) (hx : Loc X.env.scope x := by first | exact .inl rfl | exact .inr rfl) (hs : swapsWith e (some (.Name x pos')) pos.line X.env = pure false := by rfl)
    (hf : X.fn x = true ∨ X.env.scope.names.lookup x = some .local := by first | exact .inl rfl | exact .inr rfl) : SS g X W n (.Assign [.Name x pos'] e pos) (dSet i f) :=
  fun C => (ps_set C.nd hi hx (he C) hs hf).imp fun _ _ _ h => set_imp h
/-- a, b = x, y of plain local names -/
def dPar (is : List Nat) (f : Da) : Ds := fun s h => (f s h).bindS s fun vs h1 => match is, vs with
  | [i, j], [v, w] => .nx ((s.set i (some v)).set j (some w)) h1
  | _, _ => .no
theorem s_par {x y : Str} {f : Da} {px py pt pt2 : Pos} {kt k2 : Nat} (i j : Nat) (ha : SA g X W (n + 1) [a, b] f) (hi : X.N[i]? = some x := by rfl) (hj : X.N[j]? = some y := by rfl) (hij : i ≠ j := by decide)
    (hx : X.env.scope.names.lookup x = some .local := by rfl) (hy : X.env.scope.names.lookup y = some .local := by rfl)
    (hw : swappedStores [.Tuple [.Name x px, .Name y py] kt pt] (.Tuple [a, b] k2 pt2) X.env = pure (some [x, y]) := by rfl)
    (hs : swapsWithSole [.Tuple [.Name x px, .Name y py] kt pt] (.Tuple [a, b] k2 pt2) pos.line X.env = pure false := by rfl) :
    SS g X W (n + 1) (.Assign [.Tuple [.Name x px, .Name y py] kt pt] (.Tuple [a, b] k2 pt2) pos) (dPar [i, j] f) := by
  intro C
  refine (ps_par C.calm C.nd hi hj hij hx hy (ha C) hw hs).imp ?_
  rintro D σ H ⟨ρ, s, hp, R, L, h⟩
  refine aBS h R L fun vs h1 ρ1 H1 xs S1 R1 r1 L1 p1 => ?_
  match vs, xs, r1 with
  | [v, w], [v', w'], r1 =>
    have q := r1.cons_inv
    have q2 := q.2.cons_inv
    exact ⟨v', w', rfl, p1 ρ1 H1 _ (.refl _ _) R1 ((L1.set i q.1).set j q2.1)⟩
  | [], _, _ => exact p1.elim
  | [_], _, _ => exact p1.elim
  | _ :: _ :: _ :: _, _, _ => exact p1.elim
  | [_, _], [], r1 => have := r1.length; simp at this
  | [_, _], [_], r1 => have := r1.length; simp at this
  | [_, _], _ :: _ :: _ :: _, r1 => have := r1.length; simp at this
end
end Wr
set_option Elab.async false
set_option linter.all false
set_option maxRecDepth 100000
set_option maxHeartbeats 4000000
set_option autoImplicit false
namespace Wr
open PySem PySem.Spec PyProof.Rows L2
section
variable (g : Gd) (ρ : List Addr) (H : Hp)
/-- what an iterator yields: a value of ours, or (b) a tuple that only is to be taken apart -/
def Ry : Bool → Va → V → Prop
  | false, x, v => Rv g ρ H x v
  | true, x, v => Rv g ρ H x v ∨ ∃ xs vs T, x = .tup xs ∧ v = .ref T ∧ SqT g.K H T vs ∧ Rvs g ρ H xs vs
end
theorem Ry.of {g : Gd} {ρ : List Addr} {H : Hp} {b : Bool} {x : Va} {v : V} (h : Rv g ρ H x v) : Ry g ρ H b x v := by
  cases b with
  | false => exact h
  | true => exact .inl h
inductive Tg where
  | nm (i : Nat) | tp (is : List Nat)
def setEach : List Nat → List Va → Sg → Option Sg
  | [], [], s => some s
  | i :: is, x :: xs, s => setEach is xs (s.set i (some x))
  | _, _, _ => none
def setT (t : Tg) (x : Va) (s : Sg) (h : Hs) : Option Sg := match t with
  | .nm i => some (s.set i (some x))
  | .tp is => match x with
    | .tup xs => setEach is xs s
    | .ref r => match h[r]? with
      | some (.lst xs) => setEach is xs s
      | _ => none
    | _ => none
def Tg.slots : Tg → List Nat
  | .nm i => [i]
  | .tp is => is
def Agr (is : List Nat) (σ σ' : L2.St) : Prop := ∀ vs : List Nat, (∀ i ∈ is, i ∈ vs) → wipe σ' vs = wipe σ vs
theorem wipe_out {σ : L2.St} {i : Nat} {x : Option V} : ∀ {vs : List Nat}, i ∉ vs → wipe (σ.set i x) vs = (wipe σ vs).set i x
  | [], _ => rfl
  | v :: vs, h => by
    unfold wipe
    rw [wipe_out (fun z => h (List.mem_cons_of_mem _ z)), List.set_comm]
    intro e; exact h (by rw [e]; exact List.mem_cons_self)
theorem wipe_set {σ : L2.St} {i : Nat} {x : Option V} : ∀ {vs : List Nat}, i ∈ vs → wipe (σ.set i x) vs = wipe σ vs
  | v :: vs, h => by
    unfold wipe
    by_cases hv : i ∈ vs
    · rw [wipe_set hv]
    · rcases List.mem_cons.mp h with e | e
      · subst e
        rw [wipe_out hv, List.set_set]
      · exact absurd e hv
theorem Agr.set (σ : L2.St) (i : Nat) (x : Option V) : Agr [i] σ (σ.set i x) := fun vs h => wipe_set (h i (by simp))
theorem Agr.refl (is : List Nat) (σ : L2.St) : Agr is σ σ := fun _ _ => rfl
theorem wipe_wipe (σ : L2.St) : ∀ (us vs : List Nat), (∀ i ∈ us, i ∈ vs) → wipe (wipe σ us) vs = wipe σ vs
  | [], _, _ => rfl
  | v :: us, vs, h => by
    show wipe ((wipe σ us).set v none) vs = _
    rw [wipe_set (h v (by simp)), wipe_wipe σ us vs fun i hi => h i (List.mem_cons_of_mem _ hi)]
def wipeS (s : Sg) : List Nat → Sg
  | [] => s
  | v :: vs => (wipeS s vs).set v none
theorem Rsl.none {g : Gd} {ρ : List Addr} {H : Hp} {s : Sg} {σ : L2.St} (h : Rsl g ρ H s σ) (i : Nat) : Rsl g ρ H (s.set i none) (σ.set i none) := by
  refine ⟨by simpa using h.len, fun j y e => ?_⟩
  by_cases hj : i = j
  · subst hj
    by_cases hi : i < s.length
    · rw [List.getElem?_set_self hi] at e; cases e
    · rw [List.getElem?_eq_none (by simpa using hi)] at e; cases e
  · rw [List.getElem?_set_ne hj] at e ⊢
    exact h.at_ j y e
theorem Rsl.wipe {g : Gd} {ρ : List Addr} {H : Hp} {s : Sg} {σ : L2.St} (h : Rsl g ρ H s σ) : ∀ vs : List Nat, Rsl g ρ H (wipeS s vs) (wipe σ vs)
  | [] => h
  | v :: vs => (Rsl.wipe h vs).none v
def tG (g : Gd) (b : Bool) (t : Tg) : TG := fun v σ H Q => ∃ ρ s hp x s', Rh g ρ H hp ∧ Rsl g ρ H s σ ∧ Ry g ρ H b x v ∧ setT t x s hp = some s' ∧ ∀ σ', Rsl g ρ H s' σ' → Agr t.slots σ σ' → Q σ' H
def SG (g : Gd) (X : Cx) (b : Bool) (tg : Expr) (t : Tg) : Prop := X.K = g.K → X.calm = true → X.N.Nodup → PG X tg (tG g b t)
theorem _root_.L2.PG.imp {X : Cx} {e : Expr} {t t' : TG} (h : PG X e t) (q : ∀ v σ H Q, t' v σ H Q → t v σ H Q) : PG X e t' := ⟨fun pins s σ H v u Q I r w => h.run pins s σ H v u Q I r (q _ _ _ _ w)⟩
theorem _root_.L2.PG.or {X : Cx} {e : Expr} {t t' : TG} (h : PG X e t) (h' : PG X e t') : PG X e (fun v σ H Q => t v σ H Q ∨ t' v σ H Q) := ⟨fun pins s σ H v u Q I r w => by
  rcases w with w | w
  · exact h.run pins s σ H v u Q I r w
  · exact h'.run pins s σ H v u Q I r w⟩
section
variable {g : Gd} {X : Cx} {W : WX} {n : Nat} {pos : Pos}
theorem g_name (i : Nat) {x : Str} (hi : X.N[i]? = some x := by rfl) (hx : Loc X.env.scope x := by first | exact .inl rfl | exact .inr rfl) (hf : X.fn x = true ∨ X.env.scope.names.lookup x = some .local := by first | exact .inl rfl | exact .inr rfl) : SG g X false (.Name x pos) (.nm i) := by
  intro hK hc hN
  refine (pg_name hN hi hx hf).imp ?_
  rintro v σ H Q ⟨ρ, s, hp, x, s', R, L, r, e, h⟩
  unfold setT at e
  cases e
  exact h _ (L.set i r) (Agr.set σ i _)
/-- names one after another -/
inductive SNs (X : Cx) : List Expr → List Nat → Prop
  | nil : SNs X [] []
  | cons {x : Str} {pos : Pos} {i : Nat} {es : List Expr} {is : List Nat} (hi : X.N[i]? = some x) (hx : Loc X.env.scope x) (hf : X.fn x = true ∨ X.env.scope.names.lookup x = some .local) (h : SNs X es is) : SNs X (.Name x pos :: es) (i :: is)
theorem sn_cons (i : Nat) {x : Str} {es : List Expr} {is : List Nat} (h : SNs X es is) (hi : X.N[i]? = some x := by rfl) (hx : Loc X.env.scope x := by first | exact .inl rfl | exact .inr rfl)
    (hf : X.fn x = true ∨ X.env.scope.names.lookup x = some .local := by first | exact .inl rfl | exact .inr rfl) : SNs X (.Name x pos :: es) (i :: is) := .cons hi hx hf h
theorem SNs.pgs (hN : X.N.Nodup) : ∀ {es : List Expr} {is : List Nat}, SNs X es is → PGs X es (fun vs σ H Q => ∃ ρ s xs s', Rsl g ρ H s σ ∧ Rvs g ρ H xs vs ∧ setEach is xs s = some s' ∧ ∀ σ', Rsl g ρ H s' σ' → Agr is σ σ' → Q σ' H)
  | _, _, .nil => by
    refine ⟨fun pins s σ H vs us Q I r h => ?_⟩
    obtain ⟨ρ, s0, xs, s', L, rv, e, h⟩ := h
    cases xs with
    | nil =>
      simp only [Rvs] at rv
      subst rv
      unfold setEach at e
      cases e
      exact pgs_nil.run pins s σ H [] us Q I r ⟨rfl, h σ L (Agr.refl _ _)⟩
    | cons _ _ => unfold setEach at e; cases e
  | _, _, .cons (i := i) (is := is) hi hx hf hr => by
    refine ⟨fun pins s σ H vs us Q I r h => ?_⟩
    obtain ⟨ρ, s0, xs, s', L, rv, e, h⟩ := h
    cases xs with
    | nil => unfold setEach at e; cases e
    | cons x xs =>
      simp only [Rvs] at rv
      obtain ⟨v, vr, rfl, r1, r2⟩ := rv
      unfold setEach at e
      refine (pgs_cons (pg_name hN hi hx hf) (SNs.pgs hN hr)).run pins s σ H _ us Q I r ⟨v, vr, rfl, ?_⟩
      exact ⟨ρ, _, xs, s', L.set i r1, r2, e, fun σ' L' A => h σ' L' fun ws hw => (A ws fun j hj => hw j (List.mem_cons_of_mem _ hj)).trans (wipe_set (hw i (by simp)))⟩
theorem SNs.len : ∀ {es : List Expr} {is : List Nat}, SNs X es is → (assignEach es X.env).length = is.length ∧ (assignEach es X.env).findIdx? (·.1) = none
  | _, _, .nil => ⟨rfl, rfl⟩
  | _, _, .cons (es := es) hi hx hf hr => by
    obtain ⟨h1, h2⟩ := SNs.len hr
    refine ⟨?_, ?_⟩
    · simp [assignEach, h1]
    · simp [assignEach, h2, List.findIdx?_cons]
theorem setEach_len : ∀ {is : List Nat} {xs : List Va} {s s' : Sg}, setEach is xs s = some s' → xs.length = is.length
  | [], [], _, _, _ => rfl
  | [], _ :: _, _, _, h => by unfold setEach at h; cases h
  | _ :: _, [], _, _, h => by unfold setEach at h; cases h
  | _ :: is, _ :: xs, _, _, h => by
    unfold setEach at h
    simp [setEach_len h]
theorem g_tup {b : Bool} {es : List Expr} {is : List Nat} {k : Nat} (h : SNs X es is) : SG g X b (.Tuple es k pos) (.tp is) := by
  intro hK hc hN
  obtain ⟨h1, h2⟩ := h.len
  refine (PG.or (pg_tup hc (SNs.pgs (g := g) hN h) h1 h2) (pg_lst hc (SNs.pgs (g := g) hN h) h1 h2)).imp ?_
  rintro v σ H Q ⟨ρ, s, hp, x, s', R, L, r, e, q⟩
  rw [hK]
  have tup : ∀ (xs : List Va) (vs : List V) (T : Addr), setEach is xs s = some s' → SqT g.K H T vs → Rvs g ρ H xs vs → gTup g.K is.length (fun vs σ H Q => ∃ ρ s xs s', Rsl g ρ H s σ ∧ Rvs g ρ H xs vs ∧ setEach is xs s = some s' ∧ ∀ σ', Rsl g ρ H s' σ' → Agr is σ σ' → Q σ' H) (.ref T) σ H Q := fun xs vs T e ht rv =>
    ⟨T, vs, rfl, ht, by rw [← rv.length]; exact setEach_len e, ρ, s, xs, s', L, rv, e, q⟩
  have main : Rv g ρ H x v ∨ (∃ xs vs T, x = .tup xs ∧ v = .ref T ∧ SqT g.K H T vs ∧ Rvs g ρ H xs vs) := by
    cases b with
    | false => exact .inl r
    | true => exact r
  rcases main with r | ⟨xs, vs, T, rfl, rfl, ht, rv⟩
  · cases x with
    | tup xs =>
      simp only [Rv] at r
      obtain ⟨a, vs, rfl, ht, rv⟩ := r
      exact .inl (tup xs vs a e ht.sqT rv)
    | ref i =>
      simp only [Rv] at r
      obtain ⟨a, ha, rfl⟩ := r
      unfold setT at e
      simp only at e
      split at e
      · rename_i xs hx
        obtain ⟨vs, e2, rv⟩ := R.obj i a _ ha hx
        exact .inr ⟨a, vs, rfl, .inl (.inl e2), by rw [← rv.length]; exact setEach_len e, ρ, s, xs, s', L, rv, e, q⟩
      · cases e
    | _ => exact nomatch e
  · exact .inl (tup xs vs T e ht rv)
/-- a, b = e -/
def dAsgT (t : Tg) (f : De) : Ds := fun s h => (f s h).bindS s fun v h1 => match setT t v s h1 with
  | some s' => .nx s' h1
  | none => .no
end
inductive It' where
  | tup (xs : List Va) | lst (r : Nat) | rng (lo : Int) (n : Nat) | str (x : List Nat) | zip (a b : It') | enum (a : It') | keys (r : Nat)
def kVa : Key → Va
  | .inl i => .int i
  | .inr x => .str x
def itLen : It' → Hs → Nat
  | .tup xs, _ => xs.length
  | .lst r, h => match h[r]? with
    | some (.lst xs) => xs.length
    | _ => 0
  | .rng _ n, _ => n
  | .str x, _ => x.length
  | .zip a b, h => min (itLen a h) (itLen b h)
  | .enum a, h => itLen a h
  | .keys r, h => match h[r]? with
    | some (.dK xs) => xs.length
    | _ => 0
def nxt : It' → Nat → Hs → Option (Option Va)
  | .tup xs, i, _ => some xs[i]?
  | .lst r, i, h => match h[r]? with
    | some (.lst xs) => some xs[i]?
    | _ => none
  | .rng lo n, i, _ => some (if i < n then some (.int (lo + (i : Int))) else none)
  | .str x, i, _ => some (x[i]?.map fun c => .str ⟨#[c]⟩)
  | .zip a b, i, h => if i ≤ itLen a h && i ≤ itLen b h then match nxt a i h with
      | none => none
      | some oa => match nxt b i h with
        | none => none
        | some ob => match oa, ob with
          | some x, some y => some (some (.tup [x, y]))
          | _, _ => some none
    else none
  | .enum a, i, h => if i ≤ itLen a h then match nxt a i h with
      | some (some x) => some (some (.tup [.int (i : Int), x]))
      | some none => some none
      | none => none
    else none
  | .keys r, i, h => match h[r]? with
    | some (.dK kvs) => some (kvs[i]?.map fun kv => kVa kv.1)
    | _ => none
/-- J goes as it tells, from here on -/
def Rit (g : Gd) (ρ : List Addr) (H : Hp) (b : Bool) (it : It') (J : It) : Prop := ∀ (i : Nat) (ρ1 : List Addr) (H1 : Hp) (hp1 : Hs) (o : Option Va), Sp1 ρ H ρ1 H1 → Rh g ρ1 H1 hp1 → nxt it i hp1 = some o → match o with
  | none => J.stop i H1
  | some v => J.go i H1 ∧ ∀ x H2, J.yld i H1 x H2 → Sp1 ρ1 H1 ρ1 H2 ∧ Rh g ρ1 H2 hp1 ∧ Ry g ρ1 H2 b v x
abbrev Di := Sg → Hs → Rs It'
def PoI (g : Gd) (b : Bool) (ρ : List Addr) (H : Hp) (r : Rs It') (Rr : It → Hp → Prop) (E : XK) : Prop := match r with
  | .ok it h => ∀ ρ' H' J, Sp1 ρ H ρ' H' → Rh g ρ' H' h → Rit g ρ' H' b it J → Rr J H'
  | .ex c h => ∀ ρ' H', Sp1 ρ H ρ' H' → Rh g ρ' H' h → E (.ref (g.G (c % 100))) (dty c) H'
  | .no => False
def tI (g : Gd) (W : WX) (b : Bool) (f : Di) : TI := fun σ H Rr => ∃ ρ s hp, Rh g ρ H hp ∧ Rsl g ρ H s σ ∧ PoI g b ρ H (f s hp) Rr (fun c d H' => W c d σ H')
def SI (g : Gd) (X : Cx) (W : WX) (n : Nat) (b : Bool) (tg e : Expr) (f : Di) : Prop := Cz g X W n → PI X tg e (tI g W b f)
theorem _root_.L2.PI.imp {X : Cx} {tg e : Expr} {t t' : TI} (h : PI X tg e t) (q : ∀ σ H R, t' σ H R → t σ H R) : PI X tg e t' := ⟨fun pins s σ H R I w => h.run pins s σ H R I (q _ _ _ w)⟩
theorem _root_.L2.PI.or {X : Cx} {tg e : Expr} {t t' : TI} (h : PI X tg e t) (h' : PI X tg e t') : PI X tg e (fun σ H R => t σ H R ∨ t' σ H R) := ⟨fun pins s σ H R I w => by
  rcases w with w | w
  · exact h.run pins s σ H R I w
  · exact h'.run pins s σ H R I w⟩
section
variable {g : Gd} {X : Cx} {W : WX} {n : Nat} {pos : Pos} {tg iter : Expr}
def whileD (c : Dt) (body : Ds) : Nat → Ds
  | 0, _, _ => .no
  | f + 1, s, h => match c s h with
    | .ok true h1 => match body s h1 with
      | .nx s2 h2 => whileD c body f s2 h2
      | .ct s2 h2 => whileD c body f s2 h2
      | .bk s2 h2 => .nx s2 h2
      | .rt v h2 => .rt v h2
      | .ex c s2 h2 => .ex c s2 h2
      | .no => .no
    | .ok false h1 => .nx s h1
    | .ex c h1 => .ex c s h1
    | .no => .no
end
end Wr
set_option Elab.async false
set_option linter.all false
set_option maxRecDepth 100000
set_option maxHeartbeats 4000000
set_option autoImplicit false
namespace Wr
open PySem PySem.Spec PyProof.Rows L2
section
variable {g : Gd} {X : Cx} {W : WX} {n : Nat} {pos : Pos} {tg e : Expr}
theorem iBE {f : De} {k : Va → Hs → Rs It'} {σ : L2.St} {H : Hp} {ρ : List Addr} {s : Sg} {hp : Hs} {b : Bool} {Rr : It → Hp → Prop} {T : V → Hp → Prop} (h : PoI g b ρ H ((f s hp).bind k) Rr (EW W σ)) (R : Rh g ρ H hp) (L : Rsl g ρ H s σ)
    (hk : ∀ v h ρ1 H1 x, f s hp = .ok v h → Sp1 ρ H ρ1 H1 → Rh g ρ1 H1 h → Rv g ρ1 H1 v x → Rsl g ρ1 H1 s σ → PoI g b ρ1 H1 (k v h) Rr (EW W σ) → T x H1) : tE g W f σ H T := by
  refine ⟨ρ, s, hp, R, L, ?_⟩
  have mv : ∀ {ρ1 : List Addr} {H1 : Hp} {r : Rs It'}, Sp1 ρ H ρ1 H1 → PoI g b ρ H r Rr (EW W σ) → PoI g b ρ1 H1 r Rr (EW W σ) := fun {ρ1 H1 r} S h => by
    cases r with
    | ok v hh => exact fun ρ2 H2 x S2 R r => h ρ2 H2 x (S.trans S2) R r
    | ex c hh => exact fun ρ2 H2 S2 R => h ρ2 H2 (S.trans S2) R
    | no => exact h
  cases q : f s hp with
  | ok v h1 => rw [q] at h; exact fun ρ1 H1 x S R1 r => hk v h1 ρ1 H1 x q S R1 r (L.step R S) (mv S h)
  | ex c h1 => rw [q] at h; exact h
  | no => rw [q] at h; exact h
/-- a list, a tuple or a text of ours, as it is walked -/
def itOf (v : Va) (h : Hs) : Rs It' := match v with
  | .tup xs => .ok (.tup xs) h
  | .ref r => match h[r]? with
    | some (.lst _) => .ok (.lst r) h
    | _ => .no
  | .str x => .ok (.str x.cps.toList) h
  | _ => .no
theorem rit_list {ρ : List Addr} {H : Hp} {hp : Hs} {b : Bool} {r : Nat} {a : Addr} (ha : ρ[r]? = some a) : Rit g ρ H b (.lst r) (Itl g.K a) := by
  intro i ρ1 H1 hp1 o S1 R1 hq
  have ha1 := pre_get S1.pre ha
  unfold nxt at hq
  split at hq
  · rename_i xs hx
    obtain ⟨vs, e, rv⟩ := R1.obj r a _ ha1 hx
    have sq : SqL g.K H1 a vs := .inl (.inl e)
    cases hq
    cases hi : xs[i]? with
    | none =>
      have hl := rv.length
      rw [List.getElem?_eq_none_iff] at hi
      exact ⟨vs, sq, by omega⟩
    | some v =>
      obtain ⟨x, ex, rx⟩ := rv.get hi
      refine ⟨⟨vs, x, sq, ex⟩, fun y H2 hy => ?_⟩
      obtain ⟨rfl, hy⟩ := hy
      have e2 := hy vs sq
      rw [ex] at e2; cases e2
      exact ⟨.refl _ _, R1, Ry.of rx⟩
  · cases hq
theorem rit_tup {ρ : List Addr} {H : Hp} {hp : Hs} {b : Bool} {a : Addr} {xs : List Va} {vs : List V} (R : Rh g ρ H hp) (ht : SqN g.K H a vs) (rv : Rvs g ρ H xs vs) : Rit g ρ H b (.tup xs) (Itt g.K a) := by
  intro i ρ1 H1 hp1 o S1 R1 hq
  have sq : SqT g.K H1 a vs := (SqN.step R S1 ht).sqT
  have rv1 := Rvs.step R S1 _ _ rv
  unfold nxt at hq
  cases hq
  cases hi : xs[i]? with
  | none =>
    have hl := rv.length
    rw [List.getElem?_eq_none_iff] at hi
    exact ⟨vs, sq, by omega⟩
  | some v =>
    obtain ⟨x, ex, rx⟩ := rv1.get hi
    refine ⟨⟨vs, x, sq, ex⟩, fun y H2 hy => ?_⟩
    obtain ⟨rfl, hy⟩ := hy
    have e2 := hy vs sq
    rw [ex] at e2; cases e2
    exact ⟨.refl _ _, R1, Ry.of rx⟩
theorem rit_str {ρ : List Addr} {H : Hp} {b : Bool} {z : Str} : Rit g ρ H b (.str z.cps.toList) (Its z) := by
  intro i ρ1 H1 hp1 o S1 R1 hq
  unfold nxt at hq
  cases hq
  cases hi : z.cps.toList[i]? with
  | none =>
    rw [List.getElem?_eq_none_iff] at hi
    show z.cps.size ≤ i
    simpa using hi
  | some c =>
    have hc : z.cps[i]? = some c := by simpa using hi
    refine ⟨?_, fun y H2 hy => ?_⟩
    · show i < z.cps.size
      exact (Array.getElem?_eq_some_iff.mp hc).1
    · obtain ⟨rfl, c', h1, rfl⟩ := hy
      rw [hc] at h1; cases h1
      exact ⟨.refl _ _, R1, Ry.of (by simp only [Rv])⟩
def dIt (f : De) : Di := fun s h => (f s h).bind itOf
theorem i_seq {b : Bool} {f : De} (he : SE g X W n e f) : SI g X W n b tg e (dIt f) := by
  intro C
  refine (PI.or (pi_list (he C)) (PI.or (pi_tup (he C)) (pi_str (he C)))).imp ?_
  rintro σ H Rr ⟨ρ, s, hp, R, L, h⟩
  rw [C.K]
  unfold dIt at h
  cases q : f s hp with
  | no => simp only [q, Rs.bind] at h; exact h.elim
  | ex c h1 =>
    simp only [q, Rs.bind] at h
    exact .inl ⟨ρ, s, hp, R, L, by rw [q]; exact h⟩
  | ok v h1 =>
    cases v with
    | tup xs =>
      refine .inr (.inl (iBE h R L fun v h1 ρ1 H1 x e1 S1 R1 r1 L1 p1 => ?_))
      rw [q] at e1; cases e1
      simp only [Rv] at r1
      obtain ⟨a, vs, rfl, ht, rv⟩ := r1
      exact ⟨a, rfl, ⟨vs, ht.sqT⟩, p1 ρ1 H1 _ (.refl _ _) R1 (rit_tup R1 ht rv)⟩
    | str z =>
      refine .inr (.inr (iBE h R L fun v h1 ρ1 H1 x e1 S1 R1 r1 L1 p1 => ?_))
      rw [q] at e1; cases e1
      simp only [Rv] at r1
      exact ⟨z, r1, p1 ρ1 H1 _ (.refl _ _) R1 rit_str⟩
    | ref r =>
      refine .inl (iBE h R L fun v h1 ρ1 H1 x e1 S1 R1 r1 L1 p1 => ?_)
      rw [q] at e1; cases e1
      simp only [Rv] at r1
      obtain ⟨a, ha, rfl⟩ := r1
      unfold itOf at p1
      simp only at p1
      split at p1
      · rename_i xs hx
        obtain ⟨vs, e2, rv⟩ := R1.obj r a _ ha hx
        exact ⟨a, rfl, ⟨vs, .inl (.inl e2)⟩, p1 ρ1 H1 _ (.refl _ _) R1 (rit_list (hp := []) ha)⟩
      · exact p1.elim
    | _ => simp only [q, Rs.bind, itOf] at h; exact h.elim
/-- range -/
def rgOk (a b : Int) : Bool := decide (-(2 ^ 62) ≤ a) && decide (a < 2 ^ 62) && decide (-(2 ^ 62) ≤ b) && decide (b < 2 ^ 62)
theorem rgOk_ok {a b : Int} (h : rgOk a b = true) : -(2 ^ 62) ≤ a ∧ a < 2 ^ 62 ∧ -(2 ^ 62) ≤ b ∧ b < 2 ^ 62 := by
  unfold rgOk at h
  simp only [Bool.and_eq_true, decide_eq_true_eq] at h
  exact ⟨h.1.1.1, h.1.1.2, h.1.2, h.2⟩
def dRng1 (f : Da) : Di := fun s h => (f s h).bind fun vs h1 => match vs with
  | [.int j] => if rgOk 0 j then .ok (.rng 0 j.toNat) h1 else .no
  | _ => .no
def dRng2 (f : Da) : Di := fun s h => (f s h).bind fun vs h1 => match vs with
  | [.int i, .int j] => if rgOk i j then .ok (.rng i (j - i).toNat) h1 else .no
  | _ => .no
theorem rit_rng {ρ : List Addr} {H : Hp} {b : Bool} {lo : Int} {m : Nat} : Rit g ρ H b (.rng lo m) (Itr lo m) := by
  intro i ρ1 H1 hp1 o S1 R1 hq
  unfold nxt at hq
  cases hq
  by_cases hi : i < m
  · rw [if_pos hi]
    refine ⟨hi, fun y H2 hy => ?_⟩
    obtain ⟨rfl, rfl⟩ := hy
    exact ⟨.refl _ _, R1, Ry.of (by simp only [Rv])⟩
  · rw [if_neg hi]
    exact Nat.le_of_not_lt hi
theorem iBA {f : Da} {k : List Va → Hs → Rs It'} {σ : L2.St} {H : Hp} {ρ : List Addr} {s : Sg} {hp : Hs} {b : Bool} {Rr : It → Hp → Prop} {T : List V → Hp → Prop} (h : PoI g b ρ H ((f s hp).bind k) Rr (EW W σ)) (R : Rh g ρ H hp) (L : Rsl g ρ H s σ)
    (hk : ∀ v h ρ1 H1 x, f s hp = .ok v h → Sp1 ρ H ρ1 H1 → Rh g ρ1 H1 h → Rvs g ρ1 H1 v x → Rsl g ρ1 H1 s σ → PoI g b ρ1 H1 (k v h) Rr (EW W σ) → T x H1) : tA g W f σ H T := by
  refine ⟨ρ, s, hp, R, L, ?_⟩
  have mv : ∀ {ρ1 : List Addr} {H1 : Hp} {r : Rs It'}, Sp1 ρ H ρ1 H1 → PoI g b ρ H r Rr (EW W σ) → PoI g b ρ1 H1 r Rr (EW W σ) := fun {ρ1 H1 r} S h => by
    cases r with
    | ok v hh => exact fun ρ2 H2 x S2 R r => h ρ2 H2 x (S.trans S2) R r
    | ex c hh => exact fun ρ2 H2 S2 R => h ρ2 H2 (S.trans S2) R
    | no => exact h
  cases q : f s hp with
  | ok v h1 => rw [q] at h; exact fun ρ1 H1 x S R1 r => hk v h1 ρ1 H1 x q S R1 r (L.step R S) (mv S h)
  | ex c h1 => rw [q] at h; exact h
  | no => rw [q] at h; exact h
theorem Rvs.int1 {ρ : List Addr} {H : Hp} {j : Int} {x : List V} (h : Rvs g ρ H [.int j] x) : x = [.int j] := by
  simp only [Rvs, Rv] at h
  obtain ⟨v, r, rfl, rfl, rfl⟩ := h
  rfl
theorem i_range1 {b : Bool} {a : Expr} {f : Da} {p : Pos} (hm : X.mg "range" = none) (ha : SA g X W n [a] f) (hg : Gl X "range" := by rfl) (hs : starEach [a] X.env = [(false, eval a X.env)] := by rfl) :
    SI g X W n b tg (.Call (.Name "range" p) [a] [] pos) (dRng1 f) := by
  intro C
  refine (pi_range1 hg hm (ha C) hs).imp ?_
  rintro σ H Rr ⟨ρ, s, hp, R, L, h⟩
  refine iBA h R L fun v h1 ρ1 H1 x e1 S1 R1 r1 L1 p1 => ?_
  split at p1
  · rename_i j
    by_cases ok : rgOk 0 j = true
    · rw [if_pos ok] at p1
      have o := rgOk_ok ok
      exact ⟨j, r1.int1, o.2.2.1, o.2.2.2, p1 ρ1 H1 _ (.refl _ _) R1 rit_rng⟩
    · rw [if_neg ok] at p1; exact p1.elim
  · exact p1.elim
end
inductive Sk where
  | L | T
def Sq2 (K : PySem.W.Frag) (H : Hp) : Sk → Addr → List V → Prop
  | .L, a, xs => SqL K H a xs
  | .T, a, xs => SqT K H a xs
def IsIt (h : Heap) : Sk → Addr → Addr → Nat → Prop
  | .L, it, a, i => h.IsListIter it a i
  | .T, it, a, i => h.IsTupleIter it a i
def IsSq (h : Heap) : Sk → Addr → Array Value → Prop
  | .L, a, xs => h.IsList a xs
  | .T, a, xs => h.IsTuple a xs
theorem IsIt.kept {h h' : Heap} {k : Sk} {it a : Addr} {i : Nat} (x : IsIt h k it a i) (q : ∀ o, h.get? it = some o → h'.get? it = some o) : IsIt h' k it a i := by
  cases k with
  | L => exact Heap.IsListIter.at x q
  | T => exact Heap.IsTupleIter.at x q
theorem IsIt.obj {h : Heap} {k : Sk} {it a : Addr} {i : Nat} (x : IsIt h k it a i) : ∃ o, h.get? it = some o ∧ ∀ v, o.data ≠ .cell v := by
  cases k with
  | L => obtain ⟨o, e, _, d⟩ := x; exact ⟨o, e, fun v z => by rw [d] at z; cases z⟩
  | T => obtain ⟨o, e, _, d⟩ := x; exact ⟨o, e, fun v z => by rw [d] at z; cases z⟩
theorem drawsK {P : Program} {w : World} {A : Around} (k : Sk) (hh : A.handled = none) (it a : Addr) (hne : a ≠ it) (items : Array Value) :
    Draws P w A it [it, a] items.size (fun i v => items[i]? = some v) (fun i h => IsIt h k it a i ∧ IsSq h k a items) := by
  cases k with
  | L => exact Draws.list hh it a hne items
  | T => exact Draws.tuple hh it a hne items
theorem Sq2.inv {X : Cx} {pins : List (Addr × Obj)} {σ : L2.St} {H : Hp} {s : Shared} {k : Sk} {a : Addr} {xs : List V} (I : Inv X pins σ H s) (h : Sq2 X.K H k a xs) : ∃ its : List Value, Vals xs its ∧ IsSq s.heap k a its.toArray ∧ a < s.heap.objs.size := by
  cases k with
  | L =>
    obtain ⟨its, r, p, _⟩ := I.list h
    exact ⟨its, r, p.isList, p.lt⟩
  | T =>
    obtain ⟨its, r, p, _⟩ := I.tuple h
    obtain ⟨o, ho, q⟩ := id p
    exact ⟨its, r, p, Heap.lt_size ho⟩
theorem Sq2.inj {X : Cx} {pins : List (Addr × Obj)} {σ : L2.St} {H : Hp} {s : Shared} {k : Sk} {a : Addr} {xs ys : List V} (I : Inv X pins σ H s) (h : Sq2 X.K H k a xs) (h' : Sq2 X.K H k a ys) : xs = ys := by
  cases k with
  | L => exact I.list_inj h h'
  | T => exact I.tuple_inj h h'
section
variable {g : Gd} {X : Cx} {W : WX} {n : Nat} {pos tpos : Pos} {e e2 : Expr} {elts : List Expr} {kk : Nat}
/-- a part of a zip -/
def Cmp (g : Gd) (ρ : List Addr) (H : Hp) : It' → Sk → Addr → Prop
  | .lst r, k, a => k = .L ∧ ρ[r]? = some a
  | .tup xs, k, a => k = .T ∧ ∃ vs, SqN g.K H a vs ∧ Rvs g ρ H xs vs
  | _, _, _ => False
theorem Cmp.at {ρ ρ1 : List Addr} {H H1 : Hp} {hp hp1 : Hs} {it : It'} {k : Sk} {a : Addr} {i : Nat} {o : Option Va} (R : Rh g ρ H hp) (c : Cmp g ρ H it k a) (S1 : Sp1 ρ H ρ1 H1) (R1 : Rh g ρ1 H1 hp1) (hq : nxt it i hp1 = some o) :
    ∃ ws, Sq2 g.K H1 k a ws ∧ itLen it hp1 = ws.length ∧ (o = none → ws[i]? = none) ∧ ∀ v, o = some v → ∃ x, ws[i]? = some x ∧ Rv g ρ1 H1 v x := by
  cases it with
  | lst r =>
    obtain ⟨rfl, ha⟩ := c
    unfold nxt at hq
    split at hq
    · rename_i xs hx
      obtain ⟨vs, e, rv⟩ := R1.obj r a _ (pre_get S1.pre ha) hx
      cases hq
      refine ⟨vs, .inl (.inl e), ?_, fun e2 => rv.none_of e2, fun v e2 => rv.get e2⟩
      simp only [itLen, hx]
      exact rv.length
    · cases hq
  | tup xs =>
    obtain ⟨rfl, vs, ht, rv⟩ := c
    have rv1 := Rvs.step R S1 _ _ rv
    unfold nxt at hq
    cases hq
    exact ⟨vs, (SqN.step R S1 ht).sqT, rv.length, fun e2 => rv1.none_of e2, fun v e2 => rv1.get e2⟩
  | _ => exact c.elim
def pairIt (x y : Va) (h : Hs) : Rs It' := (itOf x h).bind fun a h1 => (itOf y h1).bind fun b h2 => .ok (.zip a b) h2
/-- a part of a zip, by its value -/
theorem cmp_of {ρ : List Addr} {H : Hp} {hp h' : Hs} {v : Va} {x : V} {it : It'} (R : Rh g ρ H hp) (r : Rv g ρ H v x) (e : itOf v hp = .ok it h') (hs : ∀ z, v ≠ .str z) : h' = hp ∧ ∃ k a xs, x = .ref a ∧ Cmp g ρ H it k a ∧ Sq2 g.K H k a xs := by
  cases v with
  | tup xs =>
    cases e
    simp only [Rv] at r
    obtain ⟨a, vs, rfl, ht, rv⟩ := r
    exact ⟨rfl, .T, a, vs, rfl, ⟨rfl, vs, ht, rv⟩, ht.sqT⟩
  | ref i =>
    simp only [Rv] at r
    obtain ⟨a, ha, rfl⟩ := r
    unfold itOf at e
    simp only at e
    split at e
    · rename_i xs hx
      cases e
      obtain ⟨vs, e2, rv⟩ := R.obj i a _ ha hx
      exact ⟨rfl, .L, a, vs, rfl, ⟨rfl, ha⟩, .inl (.inl e2)⟩
    · cases e
  | str z => exact absurd rfl (hs z)
  | _ => exact nomatch e
/-- no texts in a zip -/
def noStr : Va → Bool
  | .str _ => false
  | _ => true
def dZipS (f : Da) : Di := fun s h => (f s h).bind fun vs h1 => match vs with
  | [x, y] => if noStr x && noStr y then pairIt x y h1 else .no
  | _ => .no
end
end Wr
set_option Elab.async false
set_option linter.all false
set_option maxRecDepth 100000
set_option maxHeartbeats 4000000
set_option autoImplicit false
namespace Wr
open PySem PySem.Spec PyProof.Rows L2
abbrev W0 : WX := fun _ _ _ _ => False
theorem Cz.blk {g : Gd} {X : Cx} {W : WX} {n : Nat} (C : Cz g X W (n + 1)) (s : Shared) (H : Hp) (sc : Scope) (ce : Env) (fp : List Addr) : Cz g (X.blk s H sc ce fp) W0 (n + 1) :=
  Cz.mk1 C.K takes0M C.calm C.nd C.room PassesOwn.never
def STs (g : Gd) (X : Cx) (W : WX) (n : Nat) (es : List Expr) (f : Dt) : Prop := Cz g X W n → PTs X es (tT g W f)
theorem _root_.L2.PTs.imp {X : Cx} {e : List Expr} {t t' : TT} (h : PTs X e t) (q : ∀ σ H Q, t' σ H Q → t σ H Q) : PTs X e t' := ⟨fun pins s σ H Q I w => h.run pins s σ H Q I (q _ _ _ w)⟩
section
variable {g : Gd} {X : Cx} {W : WX} {n : Nat} {pos : Pos} {tg iter elt : Expr} {ifs : List Expr}
def dYes : Dt := fun _ h => .ok true h
theorem ts_nil : STs g X W n [] dYes := fun _ => pts_nil.imp fun σ H Q ⟨ρ, s, hp, R, L, h⟩ => h ρ H (.refl _ _) R
theorem ts_one {c : Expr} {f : Dt} (h : ST g X W n c f) : STs g X W n [c] f := fun C => pts_one (h C)
def compL (it : It') (t : Tg) (test : Dt) (el : De) (s : Sg) : Nat → Nat → Hs → Rs (List Va)
  | 0, _, _ => .no
  | f + 1, i, h => match nxt it i h with
    | none => .no
    | some none => .ok [] h
    | some (some v) => match setT t v s h with
      | none => .no
      | some s1 => match test s1 h with
        | .ok true h1 => match el s1 h1 with
          | .ok y h2 => match compL it t test el s f (i + 1) h2 with
            | .ok ys h3 => .ok (y :: ys) h3
            | .ex _ _ => .no
            | .no => .no
          | .ex _ _ => .no
          | .no => .no
        | .ok false h1 => compL it t test el s f (i + 1) h1
        | .ex _ _ => .no
        | .no => .no
def dComp (own : List Nat) (di : Di) (t : Tg) (test : Dt) (el : De) : De := fun s h => (di s h).bind fun it h1 => (compL it t test el (wipeS s own) (itLen it h1 + 1) 0 h1).bind mkL
theorem comp_imp {b : Bool} {own : List Nat} {di : Di} {t : Tg} {test : Dt} {el : De} (hsl : ∀ i ∈ t.slots, i ∈ own) {σ : L2.St} {H : Hp} {Q : VK} (h : tE g W (dComp own di t test el) σ H Q) :
    tLc (tI g W b di) (tG g b t) (tT g W0 test) (tE g W0 el) own σ H Q := by
  obtain ⟨ρ, s, hp, R, L, h⟩ := h
  refine ⟨ρ, s, hp, R, L, ?_⟩
  unfold dComp at h
  cases q : di s hp with
  | no => rw [q] at h; exact h
  | ex c h1 => rw [q] at h; exact h
  | ok it h1 =>
    rw [q] at h
    simp only [Rs.bind] at h
    intro ρ0 H0 J S0 R0 hJ D hD
    have h0 := PoE.at h S0
    have L0 := L.step R S0
    -- the list so far stands at D, which is not ours yet
    refine ⟨fun i m H1 => ∃ ρ1 h2 acc accV, Sp1 ρ0 H0 ρ1 H1 ∧ Rh g ρ1 H1 h2 ∧ D ∉ ρ1 ∧ H1 D = some (.lst accV) ∧ Rvs g ρ1 H1 acc accV ∧
      PoE g ρ0 H0 ((compL it t test el (wipeS s own) m i h2).bind fun ys h3 => mkL (acc ++ ys) h3) Q (EW W σ), ⟨itLen it h1 + 1, ?_⟩, ?_⟩
    · obtain ⟨S1, R1⟩ := R0.laid (u := .lst []) hD
      refine ⟨ρ0, h1, [], [], S1, R1, fun z => ?_, upd_same, Rvs.nil, h0⟩
      have := R0.mut z
      rw [hD] at this; exact this
    rintro i m H1 ⟨ρ1, h2, acc, accV, S1, R1, nD, eD, rv, p1⟩
    cases m with
    | zero => exact p1.elim
    | succ m =>
      unfold compL at p1
      split at p1
      · exact p1.elim
      · rename_i hq
        refine .inl ⟨hJ i ρ1 H1 h2 none S1 R1 hq, ?_⟩
        simp only [Rs.bind, mkL, List.append_nil] at p1
        by_cases hz : okN acc.length = true
        · rw [if_pos hz] at p1
          have R2 := R1.take nD eD rv
          refine p1 (ρ1 ++ [D]) H1 (.ref D) ⟨S1.pre.trans (List.prefix_append _ _), fun b hb => ?_, S1.keep, S1.frz⟩ R2 ?_
          · rcases List.mem_append.mp hb with z | z
            · exact S1.new b z
            · rw [List.mem_singleton.mp z]; exact .inr (new_none hD)
          · simp only [Rv]
            exact ⟨D, by rw [← R1.len]; simp, rfl⟩
        · rw [if_neg hz] at p1; exact p1.elim
      · rename_i v hq
        obtain ⟨hgo, hy⟩ := hJ i ρ1 H1 h2 (some v) S1 R1 hq
        refine .inr ⟨hgo, fun H' => ∃ ρ1 h2 acc accV, Sp1 ρ0 H0 ρ1 H' ∧ Rh g ρ1 H' h2 ∧ D ∉ ρ1 ∧ H' D = some (.lst accV) ∧ Rvs g ρ1 H' acc accV ∧
          PoE g ρ0 H0 ((compL it t test el (wipeS s own) m (i + 1) h2).bind fun ys h3 => mkL (acc ++ ys) h3) Q (EW W σ), fun H' w => ⟨m, Nat.lt_succ_self m, w⟩, fun x H2 hyl => ?_⟩
        obtain ⟨S2, R2, ry⟩ := hy x H2 hyl
        have eD2 := S2.keep _ _ eD nD (fun _ z => nomatch z)
        have rv2 := Rvs.step R1 S2 _ _ rv
        have S12 := S1.trans S2
        have L2' : Rsl g ρ1 H2 (wipeS s own) (wipe σ own) := ((L0.wipe own).step R0 S12)
        split at p1
        · exact p1.elim
        · rename_i s2 hset
          refine ⟨ρ1, wipeS s own, h2, v, s2, R2, L2', ry, hset, fun σ' L' A => ⟨?_, ?_⟩⟩
          · rw [A own hsl]
            exact wipe_wipe σ own own fun _ z => z
          refine ⟨ρ1, s2, h2, R2, L', ?_⟩
          cases qt : test s2 h2 with
          | no => rw [qt] at p1; exact p1.elim
          | ex c h3 => rw [qt] at p1; exact p1.elim
          | ok bt h3 =>
            rw [qt] at p1
            intro ρ3 H3 S3 R3
            have nD3 : D ∉ ρ3 := fun z => by
              rcases S3.new D z with w | w
              · exact nD w
              · exact w _ eD2 (fun _ z => nomatch z)
            have eD3 := S3.keep _ _ eD2 nD (fun _ z => nomatch z)
            have rv3 := Rvs.step R2 S3 _ _ rv2
            have S13 := S12.trans S3
            cases bt with
            | false =>
              simp only at p1
              exact ⟨ρ3, h3, acc, accV, S13, R3, nD3, eD3, rv3, p1⟩
            | true =>
              refine ⟨ρ3, s2, h3, R3, L'.step R2 S3, ?_⟩
              simp only at p1
              cases qe : el s2 h3 with
              | no => rw [qe] at p1; exact p1.elim
              | ex c h4 => rw [qe] at p1; exact p1.elim
              | ok y h4 =>
                rw [qe] at p1
                intro ρ4 H4 z S4 R4 rz
                have nD4 : D ∉ ρ4 := fun w => by
                  rcases S4.new D w with w | w
                  · exact nD3 w
                  · exact w _ eD3 (fun _ z => nomatch z)
                have eD4 := S4.keep _ _ eD3 nD3 (fun _ z => nomatch z)
                have rv4 := Rvs.step R3 S4 _ _ rv3
                have S14 := S13.trans S4
                simp only at p1
                have T : Tst g H4 (upd H4 D (.lst (accV ++ [z]))) := Tst.upd eD4
                -- the list's length
                have hlen : accV.length < sizeLine := by
                  cases qc : compL it t test el (wipeS s own) m (i + 1) h4 with
                  | no => rw [qc] at p1; exact p1.elim
                  | ex c h5 => rw [qc] at p1; exact p1.elim
                  | ok ys h5 =>
                    rw [qc] at p1
                    simp only [Rs.bind, mkL] at p1
                    by_cases hz : okN (acc ++ y :: ys).length = true
                    · have := okN_le hz
                      rw [← rv4.length]
                      simp at this
                      omega
                    · rw [if_neg hz] at p1; exact p1.elim
                refine ⟨accV, eD4, hlen, ρ4, h4, acc ++ [y], accV ++ [z], ?_, R4.other T nD4 (fun u z => by rw [eD4] at z; cases z; trivial), nD4, upd_same, Rvs.tst T (List.prefix_refl _) _ _ (rv4.append (Rvs.one rz)), ?_⟩
                · have hne : ∀ b o, H0 b = some o → b ≠ D := fun b o hb z => by rw [z, hD] at hb; cases hb
                  exact ⟨S14.pre, S14.new, fun b o hb hn nt => by rw [upd_ne (hne b o hb)]; exact S14.keep b o hb hn nt, fun b o u hb => by rw [upd_ne (hne b _ hb)]; exact S14.frz b o u hb⟩
                · cases qc : compL it t test el (wipeS s own) m (i + 1) h4 with
                  | no => rw [qc] at p1; exact p1.elim
                  | ex c h5 => rw [qc] at p1; exact p1.elim
                  | ok ys h5 =>
                    rw [qc] at p1
                    simp only [Rs.bind] at p1 ⊢
                    rw [List.append_assoc]
                    exact p1
def subL (a b : List Nat) : Bool := a.all fun i => b.contains i
theorem subL_ok {a b : List Nat} (h : subL a b = true) : ∀ i ∈ a, i ∈ b := fun i hi => by
  have := List.all_eq_true.mp h i hi
  exact List.contains_iff_mem.mp this
/-- [elt for target in iter if ..] -/
theorem e_comp {b : Bool} {scope : Scope} (own : List (Str × Nat)) {di : Di} {t : Tg} {test : Dt} {el : De} (hi : SI g X W (n + 1) b tg iter di) (ok : BlkOk X.N X.env.scope scope own)
    (hg : ∀ (s : Shared) (H : Hp) (C : Addr) (cl : List (Str × Addr)) (fp : List Addr), SG g (X.blk s H scope (compEnvC scope cl C X.env) fp) b tg t)
    (ht : ∀ (s : Shared) (H : Hp) (C : Addr) (cl : List (Str × Addr)) (fp : List Addr), STs g (X.blk s H scope (compEnvC scope cl C X.env) fp) W0 (n + 1) ifs test)
    (he : ∀ (s : Shared) (H : Hp) (C : Addr) (cl : List (Str × Addr)) (fp : List Addr), SE g (X.blk s H scope (compEnvC scope cl C X.env) fp) W0 (n + 1) elt el)
    (hsl : subL t.slots (own.map (·.2)) = true := by rfl) (hs : ∀ x, foldedSetIterable iter X.env x = pure x := by intro _; rfl) :
    SE g X W (n + 1) (.ListComp elt [⟨tg, iter, ifs, 0⟩] scope pos) (dComp (own.map (·.2)) di t test el) := by
  intro C
  refine (pe_lc C.calm C.nd (hi C) ok (fun s H c cl fp => hg s H c cl fp C.K C.calm C.nd) (fun s H c cl fp => ht s H c cl fp (C.blk ..)) (fun s H c cl fp => he s H c cl fp (C.blk ..)) hs).imp ?_
  exact fun σ H Q h => comp_imp (subL_ok hsl) h
theorem s_setLc (i : Nat) {b : Bool} {y : Str} {py spos : Pos} {scope : Scope} (own : List (Str × Nat)) {di : Di} {t : Tg} {test : Dt} {el : De} (hi : SI g X W (n + 1) b tg iter di) (ok : BlkOk X.N X.env.scope scope own)
    (hg : ∀ (s : Shared) (H : Hp) (C : Addr) (cl : List (Str × Addr)) (fp : List Addr), SG g (X.blk s H scope (compEnvC scope cl C X.env) fp) b tg t)
    (ht : ∀ (s : Shared) (H : Hp) (C : Addr) (cl : List (Str × Addr)) (fp : List Addr), STs g (X.blk s H scope (compEnvC scope cl C X.env) fp) W0 (n + 1) ifs test)
    (he : ∀ (s : Shared) (H : Hp) (C : Addr) (cl : List (Str × Addr)) (fp : List Addr), SE g (X.blk s H scope (compEnvC scope cl C X.env) fp) W0 (n + 1) elt el)
    (hy : X.N[i]? = some y := by rfl) (hyl : X.env.scope.names.lookup y = some .local := by rfl)
    (hsw : swapsWith (.ListComp elt [⟨tg, iter, ifs, 0⟩] scope pos) (some (.Name y py)) spos.line X.env = pure true := by exact sw_true rfl rfl rfl (by decide +kernel))
    (hsl : subL t.slots (own.map (·.2)) = true := by rfl) (hs : ∀ x, foldedSetIterable iter X.env x = pure x := by intro _; rfl) :
    SS g X W (n + 1) (.Assign [.Name y py] (.ListComp elt [⟨tg, iter, ifs, 0⟩] scope pos) spos) (dSet i (dComp (own.map (·.2)) di t test el)) := by
  intro C
  refine (ps_setLc C.calm C.nd hy hyl hsw (hi C) ok (fun s H c cl fp => hg s H c cl fp C.K C.calm C.nd) (fun s H c cl fp => ht s H c cl fp (C.blk ..)) (fun s H c cl fp => he s H c cl fp (C.blk ..)) hs).imp ?_
  rintro D σ H h
  have q := set_imp h
  exact comp_imp (subL_ok hsl) q
end
def toRs : RS → Rs Va
  | .nx _ h => .ok .non h
  | .rt v h => .ok v h
  | .ex c _ h => .ex c h
  | .bk _ _ => .no
  | .ct _ _ => .no
  | .no => .no
/-- what the callee made and nobody sees any more is dropped -/
def lastM (n0 : Nat) (v : Va) (h : Hs) : List Nat := List.range n0 ++ (reach 300 h (refsV v ++ (h.take n0).flatMap refsO) []).filter (fun i => decide (n0 ≤ i))
def compact (n0 : Nat) : Rs Va → Rs Va
  | .ok v h => if h.length == n0 then .ok v h else
      let m := lastM n0 v h
      if nodupB m then match ren (idx m) v with
        | some v' => match selO m h m with
          | some h' => .ok v' h'
          | none => .no
        | none => .no
      else .no
  | .ex c h => .ex c h
  | .no => .no
theorem range_take {m : List Nat} {n0 : Nat} {l : List Nat} (h : m = List.range n0 ++ l) (ρ1 : List Addr) (hl : n0 ≤ ρ1.length) : ρ1.take n0 <+: pickA ρ1 m := by
  subst h
  have : pickA ρ1 (List.range n0 ++ l) = ρ1.take n0 ++ pickA ρ1 l := by
    unfold pickA
    rw [List.map_append]
    congr 1
    apply List.ext_getElem?
    intro i
    rw [List.getElem?_map, List.getElem?_take]
    by_cases hi : i < n0
    · rw [if_pos hi, List.getElem?_range hi]
      have : i < ρ1.length := by omega
      simp [List.getD, List.getElem?_eq_getElem this]
    · rw [if_neg hi, List.getElem?_eq_none (by simp; omega)]
      rfl
  rw [this]
  exact List.prefix_append _ _
theorem compact_ok {g : Gd} {ρ : List Addr} {H : Hp} {r : Rs Va} {Q : VK} {E : XK} (h : PoE g ρ H (compact ρ.length r) Q E) : PoE g ρ H r Q E := by
  cases r with
  | no => exact h
  | ex c h1 => exact h
  | ok v h1 =>
    unfold compact at h
    by_cases hl : (h1.length == ρ.length) = true
    · simp only at h
      rw [if_pos hl] at h
      exact h
    · simp only at h
      rw [if_neg hl] at h
      generalize hm : lastM ρ.length v h1 = m at h
      by_cases hn : nodupB m = true
      · rw [if_pos hn] at h
        split at h
        · rename_i v' hv
          split at h
          · rename_i h' hs
            intro ρ1 H1 x S1 R1 r1
            obtain ⟨R2, mv, sub, at_⟩ := sel_ok R1 (nodupB_ok hn) hs
            have hlen : ρ.length ≤ ρ1.length := S1.pre.length_le
            refine h (pickA ρ1 m) H1 x ⟨?_, fun b hb => S1.new b (sub b hb), S1.keep, S1.frz⟩ R2 (ren_ok mv _ _ _ r1 hv)
            have e : ρ1.take ρ.length = ρ := by
              obtain ⟨c, hc⟩ := S1.pre
              rw [← hc]; simp
            rw [← e]
            have q := range_take (l := _) (n0 := ρ.length) hm.symm ρ1 hlen
            rw [e] at q ⊢
            exact q
          · exact h.elim
        · exact h.elim
      · rw [if_neg hn] at h; exact h.elim
/-- the function of a def with nN names, whose body does b -/
def fnD (nN : Nat) (b : Ds) : Fn := fun args hp => compact hp.length (toRs (b (args.map some ++ List.replicate (nN - args.length) none) hp))
end Wr
set_option Elab.async false
set_option linter.all false
set_option maxRecDepth 100000
set_option maxHeartbeats 4000000
set_option autoImplicit false
namespace Wr
open PySem PySem.Spec PyProof.Rows L2
def mapO {α β : Type} (f : α → Option β) : List α → Option (List β)
  | [] => some []
  | x :: xs => match f x with
    | some y => match mapO f xs with
      | some ys => some (y :: ys)
      | none => none
    | none => none
def toD (h : Hs) : Nat → Va → Option PyData
  | _, .non => some .none
  | _, .bl b => some (.bool b)
  | _, .int i => some (.int i)
  | _, .str x => if PyData.canLay0 (.str x) then some (.str x) else none
  | n + 1, .tup xs => (mapO (toD h n) xs).map .tuple
  | n + 1, .ref i => match h[i]? with
    | some (.lst xs) => (mapO (toD h n) xs).map .list
    | _ => none
  | _, _ => none
section
variable {g : Gd} {ρ : List Addr} {H : Hp} {hp : Hs}
theorem mapO_dp {f : Va → Option PyData} (hf : ∀ x v d, Rv g ρ H x v → f x = some d → Dp g.K H v d) : ∀ (xs : List Va) (vs : List V) (ds : List PyData), Rvs g ρ H xs vs → mapO f xs = some ds → DpAll g.K H vs ds
  | [], _, _, r, e => by
    simp only [Rvs] at r
    subst r
    cases e
    exact .nil
  | x :: xs, _, _, r, e => by
    simp only [Rvs] at r
    obtain ⟨v, vr, rfl, r1, r2⟩ := r
    unfold mapO at e
    split at e
    · rename_i y hy
      split at e
      · rename_i ys hys
        cases e
        exact .cons (hf x v y r1 hy) (mapO_dp hf xs vr ys r2 hys)
      · cases e
    · cases e
theorem toD_dp (R : Rh g ρ H hp) : ∀ (n : Nat) (x : Va) (v : V) (d : PyData), Rv g ρ H x v → toD hp n x = some d → Dp g.K H v d
  | n, .non, _, _, r, e => by simp only [Rv] at r; subst r; cases n <;> (unfold toD at e; cases e; exact .non)
  | n, .bl b, _, _, r, e => by simp only [Rv] at r; subst r; cases n <;> (unfold toD at e; cases e; exact .bl b)
  | n, .int i, _, _, r, e => by simp only [Rv] at r; subst r; cases n <;> (unfold toD at e; cases e; exact .int i)
  | n, .str x, _, d, r, e => by
    simp only [Rv] at r
    subst r
    have e' : (if PyData.canLay0 (.str x) then some (PyData.str x) else none) = some d := by cases n <;> exact e
    split at e'
    · cases e'; exact .str x
    · cases e'
  | 0, .tup _, _, _, _, e => by unfold toD at e; cases e
  | n + 1, .tup xs, _, _, r, e => by
    simp only [Rv] at r
    obtain ⟨a, vs, rfl, ht, rv⟩ := r
    unfold toD at e
    obtain ⟨ds, hd, rfl⟩ := Option.map_eq_some_iff.mp e
    exact .tup ht.sqT (mapO_dp (fun x v d r e => toD_dp R n x v d r e) xs vs ds rv hd)
  | 0, .ref _, _, _, _, e => by unfold toD at e; cases e
  | n + 1, .ref i, _, _, r, e => by
    simp only [Rv] at r
    obtain ⟨a, ha, rfl⟩ := r
    unfold toD at e
    split at e
    · rename_i xs hx
      obtain ⟨vs, e2, rv⟩ := R.obj i a _ ha hx
      obtain ⟨ds, hd, rfl⟩ := Option.map_eq_some_iff.mp e
      exact .lst (.inl (.inl e2)) (mapO_dp (fun x v d r e => toD_dp R n x v d r e) xs vs ds rv hd)
    · cases e
  | n, .ty _, _, _, _, e => by cases n <;> (unfold toD at e; cases e)
  | n, .gl _, _, _, _, e => by cases n <;> (unfold toD at e; cases e)
  | n, .scr, _, _, _, e => by cases n <;> (unfold toD at e; cases e)
  | n, .exc _, _, _, _, e => by cases n <;> (unfold toD at e; cases e)
theorem mapO_lay {f : Va → Option PyData} {m : Nat} (hf : ∀ x d, f x = some d → d.canLay0 = true ∧ d.depth ≤ m) : ∀ (xs : List Va) (ds : List PyData), mapO f xs = some ds → PyData.canLayAll0 ds = true ∧ PyData.depthAll ds ≤ m
  | [], _, e => by cases e; simp [PyData.canLayAll0, PyData.depthAll]
  | x :: xs, _, e => by
    unfold mapO at e
    split at e
    · rename_i y hy
      split at e
      · rename_i ys hys
        cases e
        obtain ⟨h1, h2⟩ := hf x y hy
        obtain ⟨h3, h4⟩ := mapO_lay hf xs ys hys
        simp only [PyData.canLayAll0, PyData.depthAll, h1, h3, Bool.and_self, true_and]
        omega
      · cases e
    · cases e
theorem toD_lay : ∀ (n : Nat) (x : Va) (d : PyData), toD hp n x = some d → d.canLay0 = true ∧ d.depth ≤ n
  | n, .non, _, e => by cases n <;> (unfold toD at e; cases e; simp [PyData.canLay0, PyData.depth])
  | n, .bl b, _, e => by cases n <;> (unfold toD at e; cases e; simp [PyData.canLay0, PyData.depth])
  | n, .int i, _, e => by cases n <;> (unfold toD at e; cases e; simp [PyData.canLay0, PyData.depth])
  | n, .str x, d, e => by
    have e' : (if PyData.canLay0 (.str x) then some (PyData.str x) else none) = some d := by cases n <;> exact e
    split at e'
    · rename_i h
      cases e'
      exact ⟨h, by simp [PyData.depth]⟩
    · cases e'
  | 0, .tup _, _, e => by unfold toD at e; cases e
  | n + 1, .tup xs, _, e => by
    unfold toD at e
    obtain ⟨ds, hd, rfl⟩ := Option.map_eq_some_iff.mp e
    obtain ⟨h1, h2⟩ := mapO_lay (fun x d q => toD_lay n x d q) xs ds hd
    simp only [PyData.canLay0, PyData.depth]
    exact ⟨h1, by omega⟩
  | 0, .ref _, _, e => by unfold toD at e; cases e
  | n + 1, .ref i, _, e => by
    unfold toD at e
    split at e
    · rename_i xs hx
      obtain ⟨ds, hd, rfl⟩ := Option.map_eq_some_iff.mp e
      obtain ⟨h1, h2⟩ := mapO_lay (fun x d q => toD_lay n x d q) xs ds hd
      simp only [PyData.canLay0, PyData.depth]
      exact ⟨h1, by omega⟩
    · cases e
  | n, .ty _, _, e => by cases n <;> (unfold toD at e; cases e)
  | n, .gl _, _, e => by cases n <;> (unfold toD at e; cases e)
  | n, .scr, _, e => by cases n <;> (unfold toD at e; cases e)
  | n, .exc _, _, e => by cases n <;> (unfold toD at e; cases e)
theorem toD_shaped {x : Va} {d : PyData} (e : toD hp 9 x = some d) : SeqAt.shaped d = true := by
  obtain ⟨h1, h2⟩ := toD_lay 9 x d e
  unfold SeqAt.shaped
  rw [h1, decide_eq_true (by omega : d.depth ≤ 64)]
  rfl
def kEq : K2 := fun x y h => match toD h 9 x with
  | some d => match toD h 9 y with
    | some e => some (.bl (PyData.eqv d e), h)
    | none => none
  | none => none
def kNe : K2 := fun x y h => match toD h 9 x with
  | some d => match toD h 9 y with
    | some e => some (.bl (!PyData.eqv d e), h)
    | none => none
  | none => none
theorem rv_bl {b : Bool} {v : V} (h : Rv g ρ H (.bl b) v) : v = .bl b := by simpa only [Rv] using h
theorem rv_int {b : Int} {v : V} (h : Rv g ρ H (.int b) v) : v = .int b := by simpa only [Rv] using h
theorem rv_str {b : Str} {v : V} (h : Rv g ρ H (.str b) v) : v = .str b := by simpa only [Rv] using h
theorem rv_non {v : V} (h : Rv g ρ H .non v) : v = .non := by simpa only [Rv] using h
theorem rv_ty {b : String} {v : V} (h : Rv g ρ H (.ty b) v) : v = .ty b := by simpa only [Rv] using h
theorem mk_bl {b : Bool} : Rv g ρ H (.bl b) (.bl b) := by simp only [Rv]
theorem mk_int {b : Int} : Rv g ρ H (.int b) (.int b) := by simp only [Rv]
theorem mk_str {b : Str} : Rv g ρ H (.str b) (.str b) := by simp only [Rv]
theorem mk_non : Rv g ρ H .non .non := by simp only [Rv]
end
section
variable {g : Gd}
theorem p_eq : P2 g (rEqD g.K) kEq := by
  intro ρ H hp x y vx vy v h' Q R rx ry e q
  unfold kEq at e
  split at e
  · rename_i d hd
    split at e
    · rename_i d2 hd2
      cases e
      exact ⟨d, d2, toD_dp R 9 x vx d rx hd, toD_dp R 9 y vy d2 ry hd2, toD_shaped hd, toD_shaped hd2, q ρ H _ (.refl _ _) R mk_bl⟩
    · cases e
  · cases e
theorem p_ne : P2 g (rNeD g.K) kNe := by
  intro ρ H hp x y vx vy v h' Q R rx ry e q
  unfold kNe at e
  split at e
  · rename_i d hd
    split at e
    · rename_i d2 hd2
      cases e
      exact ⟨d, d2, toD_dp R 9 x vx d rx hd, toD_dp R 9 y vy d2 ry hd2, toD_shaped hd, toD_shaped hd2, q ρ H _ (.refl _ _) R mk_bl⟩
    · cases e
  · cases e
theorem o_eq : OpC g .Eq (rEqD g.K) := fun X hK hu => hK ▸ op_eqD (by omega)
theorem o_ne : OpC g .NotEq (rNeD g.K) := fun X hK hu => hK ▸ op_neD (by omega)
def kI (p : Int → Int → Va) : K2 := fun x y h => match x, y with
  | .int i, .int j => some (p i j, h)
  | _, _ => none
theorem kI_inv {p : Int → Int → Va} {x y v : Va} {h h' : Hs} (e : kI p x y h = some (v, h')) : ∃ i j, x = .int i ∧ y = .int j ∧ v = p i j ∧ h' = h := by
  unfold kI at e
  split at e
  · cases e; exact ⟨_, _, rfl, rfl, rfl, rfl⟩
  · cases e
theorem p_I {p : Int → Int → Va} {c : Int → Int → V} (hp : ∀ i j ρ H, Rv g ρ H (p i j) (c i j)) : P2 g (rI0 c) (kI p) := by
  intro ρ H hp' x y vx vy v h' Q R rx ry e q
  obtain ⟨i, j, rfl, rfl, rfl, rfl⟩ := kI_inv e
  exact ⟨i, j, rv_int rx, rv_int ry, q ρ H _ (.refl _ _) R (hp i j ρ H)⟩
def kLt : K2 := kI fun i j => .bl (decide (i < j))
def kLe : K2 := kI fun i j => .bl (decide (i ≤ j))
def kGt : K2 := kI fun i j => .bl (decide (j < i))
def kGe : K2 := kI fun i j => .bl (decide (j ≤ i))
theorem p_lt : P2 g (rI0 fun i j => .bl (decide (i < j))) kLt := p_I fun _ _ _ _ => mk_bl
theorem p_le : P2 g (rI0 fun i j => .bl (decide (i ≤ j))) kLe := p_I fun _ _ _ _ => mk_bl
theorem p_gt : P2 g (rI0 fun i j => .bl (decide (j < i))) kGt := p_I fun _ _ _ _ => mk_bl
theorem o_lt : OpC g .Lt (rI0 fun i j => .bl (decide (i < j))) := fun X hK hu => op_lt
theorem o_le : OpC g .LtE (rI0 fun i j => .bl (decide (i ≤ j))) := fun X hK hu => op_le
theorem o_gt : OpC g .Gt (rI0 fun i j => .bl (decide (j < i))) := fun X hK hu => op_gt
def inD (x y : Va) (h : Hs) : Option Bool := match toD h 9 x with
  | some d => match toD h 9 y with
    | some (.list ds) => some (ds.any fun z => PyData.eqv z d)
    | some (.tuple ds) => some (ds.any fun z => PyData.eqv z d)
    | _ => none
  | none => none
def kIn : K2 := fun x y h => (inD x y h).map fun b => (.bl b, h)
def kNotIn : K2 := fun x y h => (inD x y h).map fun b => (.bl (!b), h)
def rInA (K : PySem.W.Frag) (n : Bool) : R2 := fun x y H Q => ∃ d c ds, Dp K H x d ∧ Dp K H y c ∧ (c = .list ds ∨ c = .tuple ds) ∧ SeqAt.shaped d = true ∧ SeqAt.shaped c = true ∧ Q (.bl (if n then !ds.any fun z => PyData.eqv z d else ds.any fun z => PyData.eqv z d)) H
theorem o_notin : OpC g .NotIn (rInA g.K true) := by
  intro X hK hu pins s σ H x y v u Q I rx ry h
  rw [← hK] at h
  obtain ⟨d, c, ds, hd, he, hc, sd, se, q⟩ := h
  obtain ⟨as, r1⟩ := Dp.reads I d x v hd rx
  obtain ⟨bs, r2⟩ := Dp.reads I c y u he ry
  rcases hc with rfl | rfl
  · exact SeqAt.notIn_list_reads r2 r1 (SeqAt.canLay_of_shaped se) (SeqAt.canLay_of_shaped sd) (PyProof.Rows.room_in_shaped sd (by omega)) ⟨.bl _, H, I, rfl, q⟩
  · exact SeqAt.notIn_tuple_reads r2 r1 (SeqAt.canLay_of_shaped se) (SeqAt.canLay_of_shaped sd) (PyProof.Rows.room_in_shaped sd (by omega)) ⟨.bl _, H, I, rfl, q⟩
theorem inD_inv {ρ : List Addr} {H : Hp} {hp : Hs} {x y : Va} {vx vy : V} {b : Bool} (R : Rh g ρ H hp) (rx : Rv g ρ H x vx) (ry : Rv g ρ H y vy) (e : inD x y hp = some b) :
    ∃ d c ds, Dp g.K H vx d ∧ Dp g.K H vy c ∧ (c = .list ds ∨ c = .tuple ds) ∧ SeqAt.shaped d = true ∧ SeqAt.shaped c = true ∧ b = ds.any fun z => PyData.eqv z d := by
  unfold inD at e
  split at e
  · rename_i d hd
    split at e
    · rename_i ds hc
      cases e
      exact ⟨d, _, ds, toD_dp R 9 x vx d rx hd, toD_dp R 9 y vy _ ry hc, .inl rfl, toD_shaped hd, toD_shaped hc, rfl⟩
    · rename_i ds hc
      cases e
      exact ⟨d, _, ds, toD_dp R 9 x vx d rx hd, toD_dp R 9 y vy _ ry hc, .inr rfl, toD_shaped hd, toD_shaped hc, rfl⟩
    · cases e
  · cases e
theorem p_notin : P2 g (rInA g.K true) kNotIn := by
  intro ρ H hp x y vx vy v h' Q R rx ry e q
  obtain ⟨b, hb, e⟩ := Option.map_eq_some_iff.mp e
  cases e
  obtain ⟨d, c, ds, h1, h2, h3, h4, h5, rfl⟩ := inD_inv R rx ry hb
  exact ⟨d, c, ds, h1, h2, h3, h4, h5, q ρ H _ (.refl _ _) R mk_bl⟩
def isV (x y : Va) : Option Bool := match y with
  | .non => match x with
    | .non => some true
    | .gl _ => none
    | .scr => none
    | _ => some false
  | .bl b => match x with
    | .bl c => some (decide (c = b))
    | _ => none
  | _ => none
def kIs : K2 := fun x y h => (isV x y).map fun b => (.bl b, h)
def kIsNot : K2 := fun x y h => (isV x y).map fun b => (.bl (!b), h)
end
end Wr
set_option Elab.async false
set_option linter.all false
set_option maxRecDepth 100000
set_option maxHeartbeats 4000000
set_option autoImplicit false
namespace Wr
open PySem PySem.Spec PyProof.Rows L2
section
variable {X : Cx}
/-- the new tuple at the heap's end, its object known -/
theorem EP.newN {pins : List (Addr × Obj)} {σ : L2.St} {H : Hp} {s : Shared} {h' : Heap} {p : Addr} {vs : List V} {us : List Value} {t' : Nat} {Q : VK} (I : Inv X pins σ H s) (k : ∀ b u, s.heap.get? b = some u → h'.get? b = some u) (hp : s.heap.objs.size ≤ p)
    (e : h'.get? p = some (tupO us)) (r : Vals vs us) (hz : vs.length ≤ sizeLine) (q : ∀ p us, H p = none → Q (.ref p) (upd H p (.frz (tupO us) (.tup vs)))) : EP X pins σ Q (.ref p) { s with heap := h', toks := t' } :=
  ⟨.ref p, _, laidN I k hp e r hz, rfl, q p us (I.hok.fresh hp)⟩
abbrev NewT (H : Hp) (vs : List V) (Q : VK) : Prop := ∀ p us, H p = none → Q (.ref p) (upd H p (.frz (tupO us) (.tup vs)))
def rCatN (K : PySem.W.Frag) : R2 := fun x y H Q => ∃ a b xs ys, x = .ref a ∧ y = .ref b ∧ SqT K H a xs ∧ SqT K H b ys ∧ xs.length + ys.length ≤ sizeLine ∧
  (xs = [] → Q (.ref b) H) ∧ (xs ≠ [] → ys = [] → Q (.ref a) H) ∧ (xs ≠ [] → ys ≠ [] → NewT H (xs ++ ys) Q)
theorem op_catN : OpR X (binaryOp .Add) (rCatN X.K) := by
  intro pins s σ H x y v u Q I rx ry h
  obtain ⟨a, b, xs, ys, rfl, rfl, ha, hb, hz, q0, q1, q2⟩ := h
  by_cases hx : xs = []
  · exact op_catA pins s σ H _ _ v u Q I rx ry ⟨a, b, xs, ys, rfl, rfl, ha, hb, hz, q0, fun z => absurd hx z, fun z => absurd hx z⟩
  · cases rx
    cases ry
    obtain ⟨its, r1, p1, _⟩ := I.tuple ha
    obtain ⟨its2, r2, p2, _⟩ := I.tuple hb
    have len : its.length + its2.length ≤ sizeLine := by rw [← r1.length, ← r2.length]; exact hz
    refine HT.cat_tup p1 p2 (fun z => hx (r1.nil_iff.mp z)) (fun z => ⟨.ref a, H, I, rfl, q1 hx (r2.nil_iff.mp z)⟩) (fun z => ?_) len
    exact EP.newN (t' := s.toks) I (fun b ob q => Heap.get?_push_of_some _ q) (Nat.le_refl _) (Heap.get?_push_size _ rfl) (r1.append r2) (by rw [List.length_append]; exact hz) (q2 hx fun w => z (r2.nil_iff.mpr w))
def rTupOf (K : PySem.W.Frag) : List V → Hp → VK → Prop := fun xs H Q => ∃ p ys, xs = [.ref p] ∧ ((SqL K H p ys ∧ NewT H ys Q) ∨ (SqT K H p ys ∧ Q (.ref p) H))
theorem cr_tuple : CallR X (.type "tuple") (rTupOf X.K) := by
  intro pins s σ H xs us Q I r h
  obtain ⟨p, ys, rfl, h⟩ := h
  rcases h with ⟨hq, q⟩ | ⟨hq, q⟩
  · obtain ⟨u, rfl, rx⟩ := vals1 r
    cases rx
    obtain ⟨its, r', pl, hz⟩ := I.list hq
    have hlen := r'.length
    refine call_tuple_list pl.isList (fun h' kp => ?_) (by simp only [List.size_toArray] <;> omega)
    have I1 : Inv X pins σ H { s with heap := h' } := I.kept (t' := s.toks) kp
    exact EP.newN (s := { s with heap := h' }) (t' := s.toks) I1 (fun b o e => Heap.get?_push_of_some _ e) (Nat.le_refl _) (Heap.get?_push_size _ rfl) r' hz q
  · exact call_tupleT pins s σ H _ us Q I r ⟨p, ys, rfl, hq, q⟩
def rSlN (K : PySem.W.Frag) : V → Option Int → Option Int → Hp → VK → Prop := fun x lo hi H Q => ∃ a xs, x = .ref a ∧ SqT K H a xs ∧
  (HT.sIx xs.length 0 lo = 0 ∧ HT.sIx xs.length xs.length hi = xs.length → Q (.ref a) H) ∧ (¬ (HT.sIx xs.length 0 lo = 0 ∧ HT.sIx xs.length xs.length hi = xs.length) → NewT H (cutV xs lo hi) Q)
theorem sl_tupN : SlR X (rSlN X.K) := by
  intro pins s σ H x v vl vu lo hi sl Q I rx hs pl pu h
  obtain ⟨a, xs, rfl, hx, q1, q2⟩ := h
  by_cases hw : HT.sIx xs.length 0 lo = 0 ∧ HT.sIx xs.length xs.length hi = xs.length
  · exact sl_tupA pins s σ H _ v vl vu lo hi sl Q I rx hs pl pu ⟨a, xs, rfl, hx, q1, fun z => absurd hw z⟩
  · cases rx
    obtain ⟨its, r, ht, hz⟩ := I.tuple hx
    have hlen : its.toArray.size = xs.length := by rw [List.size_toArray]; exact r.length.symm
    refine ⟨"tuple", _, PyProof.Rows.slot_tuple_getitem.lookup, ht.typeIs, HT.getItem_tuple_cut ht hs pl pu (by rw [hlen]; exact hw) ?_ (by rw [hlen]; exact hz)⟩
    rw [hlen]
    exact EP.newN (t' := s.toks) I (fun b ob q => Heap.get?_push_of_some _ q) (Nat.le_refl _) (Heap.get?_push_size _ rfl) ((r.drop (HT.sIx xs.length 0 lo)).take (HT.sIx xs.length xs.length hi - HT.sIx xs.length 0 lo))
      (Nat.le_trans (cutV_length xs lo hi) hz) (q2 hw)
end
def cutA {α : Type} (xs : List α) (lo hi : Option Int) : List α := (xs.drop (HT.sIx xs.length 0 lo)).take (HT.sIx xs.length xs.length hi - HT.sIx xs.length 0 lo)
theorem Rvs.cut {g : Gd} {ρ : List Addr} {H : Hp} {xs : List Va} {vs : List V} (lo hi : Option Int) (h : Rvs g ρ H xs vs) : Rvs g ρ H (cutA xs lo hi) (cutV vs lo hi) := by
  unfold cutA cutV
  rw [h.length]
  exact (h.drop _).take _
abbrev Dp' := Sg → Hs → Rs (Option Int)
def PoO (g : Gd) (ρ : List Addr) (H : Hp) (r : Rs (Option Int)) (Q : Option Int → Hp → Prop) (E : XK) : Prop := match r with
  | .ok b h => ∀ ρ' H', Sp1 ρ H ρ' H' → Rh g ρ' H' h → Q b H'
  | .ex c h => ∀ ρ' H', Sp1 ρ H ρ' H' → Rh g ρ' H' h → E (.ref (g.G (c % 100))) (dty c) H'
  | .no => False
def tO (g : Gd) (W : WX) (f : Dp') : TO := fun σ H Q => ∃ ρ s hp, Rh g ρ H hp ∧ Rsl g ρ H s σ ∧ PoO g ρ H (f s hp) Q (fun c d H' => W c d σ H')
def SO (g : Gd) (X : Cx) (W : WX) (n : Nat) (e : Option Expr) (f : Dp') : Prop := Cz g X W n → PO X e (tO g W f)
section
variable {g : Gd} {X : Cx} {W : WX} {n : Nat} {pos p2 : Pos} {e : Expr}
theorem _root_.L2.PO.imp {X : Cx} {e : Option Expr} {t t' : TO} (h : PO X e t) (q : ∀ σ H Q, t' σ H Q → t σ H Q) : PO X e t' := ⟨fun pins s σ H Q I w => h.run pins s σ H Q I (q _ _ _ w)⟩
def oNone : Dp' := fun _ h => .ok none h
def oSome (f : De) : Dp' := fun s h => (f s h).bind fun v h1 => match v with
  | .int i => .ok (some i) h1
  | _ => .no
theorem o_none : SO g X W n none oNone := fun _ => po_none.imp fun σ H Q ⟨ρ, s, hp, R, L, h⟩ => h ρ H (.refl _ _) R
theorem o_some {f : De} (h : SE g X W n e f) : SO g X W n (some e) (oSome f) := by
  intro C
  refine (po_some (h C)).imp ?_
  rintro σ H Q ⟨ρ, s, hp, R, L, h⟩
  refine ⟨ρ, s, hp, R, L, ?_⟩
  unfold oSome at h
  cases q : f s hp with
  | no => rw [q] at h; exact h
  | ex c h1 => rw [q] at h; exact h
  | ok v h1 =>
    rw [q] at h
    cases v with
    | int i => exact fun ρ1 H1 x S1 R1 r1 => ⟨i, rv_int r1, h ρ1 H1 S1 R1⟩
    | _ => exact h.elim
theorem oBE {f : Dp'} {k : Option Int → Hs → Rs Va} {σ : L2.St} {H : Hp} {ρ : List Addr} {s : Sg} {hp : Hs} {Q : VK} {T : Option Int → Hp → Prop} (h : PoE g ρ H ((f s hp).bind k) Q (EW W σ)) (R : Rh g ρ H hp) (L : Rsl g ρ H s σ)
    (hk : ∀ v h ρ1 H1, Sp1 ρ H ρ1 H1 → Rh g ρ1 H1 h → Rsl g ρ1 H1 s σ → PoE g ρ1 H1 (k v h) Q (EW W σ) → T v H1) : tO g W f σ H T := by
  refine ⟨ρ, s, hp, R, L, ?_⟩
  cases q : f s hp with
  | ok v h1 => rw [q] at h; exact fun ρ1 H1 S R1 => hk v h1 ρ1 H1 S R1 (L.step R S) (PoE.at h S)
  | ex c h1 => rw [q] at h; exact h
  | no => rw [q] at h; exact h
def kSl (x : Va) (lo hi : Option Int) (h : Hs) : Rs Va := match x with
  | .tup xs => .ok (.tup (cutA xs lo hi)) h
  | .ref r => match h[r]? with
    | some (.lst xs) => .ok (.ref h.length) (h ++ [.lst (cutA xs lo hi)])
    | _ => .no
  | .str z => if okN z.length then .ok (.str (L2.cutS z lo hi)) h else .no
  | _ => .no
def dSl (f : De) (fl fh : Dp') : De := fun s h => (f s h).bind fun x h1 => (fl s h1).bind fun lo h2 => (fh s h2).bind fun hi h3 => kSl x lo hi h3
theorem sl_all : SlR X (fun x lo hi H Q => rSlN X.K x lo hi H Q ∨ rSlL X.K x lo hi H Q ∨ rSlS x lo hi H Q) := SlR.or sl_tupN (SlR.or sl_list sl_str)
theorem cut_whole {α : Type} (xs : List α) (lo hi : Option Int) (h : HT.sIx xs.length 0 lo = 0 ∧ HT.sIx xs.length xs.length hi = xs.length) : cutA xs lo hi = xs := by
  unfold cutA
  rw [h.1, h.2]
  simp
theorem cutA_len {α : Type} (xs : List α) (lo hi : Option Int) : (cutA xs lo hi).length ≤ xs.length := by
  unfold cutA
  rw [List.length_take, List.length_drop]
  omega
theorem e_slice {f : De} {lo hi : Option Expr} {fl fh : Dp'} (he : SE g X W n e f) (hl : SO g X W n lo fl) (hh : SO g X W n hi fh) : SE g X W n (.Subscript e (.Slice lo hi none p2) pos) (dSl f fl fh) := by
  intro C
  refine (pe_slice sl_all (he C) (hl C) (hh C)).imp ?_
  rintro σ H Q ⟨ρ, s, hp, R, L, h⟩
  rw [C.K]
  refine bE h R L fun x h1 ρ1 H1 vx S1 R1 r1 L1 p1 => ?_
  refine oBE p1 R1 L1 fun lo h2 ρ2 H2 S2 R2 L2 p2 => ?_
  refine oBE p2 R2 L2 fun hi h3 ρ3 H3 S3 R3 L3 p3 => ?_
  have r3 := Rv.step R2 S3 _ _ (Rv.step R1 S2 _ _ r1)
  cases x with
  | tup xs =>
    simp only [Rv] at r3
    obtain ⟨a, vs, rfl, ht, rv⟩ := r3
    refine .inl ⟨a, vs, rfl, ht.sqT, fun w => ?_, fun w p us hn => ?_⟩
    · refine p3 ρ3 H3 _ (.refl _ _) R3 ?_
      rw [← rv.length] at w
      rw [cut_whole xs lo hi w]
      simp only [Rv]
      exact ⟨a, vs, rfl, ht, rv⟩
    · obtain ⟨S4, R4, r4⟩ := new_tup (us := us) R3 hn (rv.cut lo hi)
      exact p3 _ _ _ S4 R4 r4
  | ref i =>
    simp only [Rv] at r3
    obtain ⟨a, ha, rfl⟩ := r3
    unfold kSl at p3
    simp only at p3
    split at p3
    · rename_i xs hx
      obtain ⟨vs, e2, rv⟩ := R3.obj i a _ ha hx
      refine .inr (.inl ⟨a, vs, rfl, .inl (.inl e2), fun p hn => ?_⟩)
      obtain ⟨S4, R4, r4⟩ := new_lst R3 hn (rv.cut lo hi)
      exact p3 _ _ _ S4 R4 r4
    · exact p3.elim
  | str z =>
    unfold kSl at p3
    simp only at p3
    by_cases hz : okN z.length = true
    · rw [if_pos hz] at p3
      exact .inr (.inr ⟨z, rv_str r3, okN_le hz, p3 ρ3 H3 _ (.refl _ _) R3 mk_str⟩)
    · rw [if_neg hz] at p3; exact p3.elim
  | _ => exact p3.elim
def rRevN (K : PySem.W.Frag) (te : TE) : TE := fun σ H Q => te σ H fun x H1 => ∃ a xs, x = .ref a ∧ SqT K H1 a xs ∧ NewT H1 xs.reverse Q
def kRev (x : Va) (h : Hs) : Rs Va := match x with
  | .tup xs => .ok (.tup xs.reverse) h
  | .ref r => match h[r]? with
    | some (.lst xs) => .ok (.ref h.length) (h ++ [.lst xs.reverse])
    | _ => .no
  | _ => .no
def dRev (f : De) : De := fun s h => (f s h).bind kRev
def kIx : K2 := fun x y h => match y with
  | .int i => match x with
    | .tup xs => (L2.atI xs i).map fun v => (v, h)
    | .ref r => match h[r]? with
      | some (.lst xs) => (L2.atI xs i).map fun v => (v, h)
      | _ => none
    | .str z => if okN z.length then (L2.atI z.cps.toList i).map fun c => (.str ⟨#[c]⟩, h) else none
    | _ => none
  | _ => none
theorem atI_rv {ρ : List Addr} {H : Hp} {xs : List Va} {vs : List V} {i : Int} {v : Va} (r : Rvs g ρ H xs vs) (e : L2.atI xs i = some v) : ∃ x, L2.atI vs i = some x ∧ Rv g ρ H v x := by
  unfold L2.atI at e ⊢
  rw [← r.length]
  cases hj : ixN xs.length i with
  | none => rw [hj] at e; cases e
  | some j =>
    rw [hj] at e
    exact r.get e
theorem p_ix : P2 g (rIx g.K) kIx := by
  intro ρ H hp x y vx vy v h' Q R rx ry e q
  unfold kIx at e
  split at e
  · rename_i i
    split at e
    · rename_i xs
      obtain ⟨w, hw, e⟩ := Option.map_eq_some_iff.mp e
      cases e
      simp only [Rv] at rx
      obtain ⟨a, vs, rfl, ht, rv⟩ := rx
      obtain ⟨z, hz, rz⟩ := atI_rv rv hw
      exact .inr (.inl ⟨a, vs, i, z, rfl, rv_int ry, ht.sqT, hz, q ρ H _ (.refl _ _) R rz⟩)
    · rename_i r
      split at e
      · rename_i xs hx
        obtain ⟨w, hw, e⟩ := Option.map_eq_some_iff.mp e
        cases e
        simp only [Rv] at rx
        obtain ⟨a, ha, rfl⟩ := rx
        obtain ⟨vs, e2, rv⟩ := R.obj r a _ ha hx
        obtain ⟨z, hz, rz⟩ := atI_rv rv hw
        exact .inl ⟨a, vs, i, z, rfl, rv_int ry, .inl (.inl e2), hz, q ρ H _ (.refl _ _) R rz⟩
      · cases e
    · rename_i z
      by_cases hz : okN z.length = true
      · rw [if_pos hz] at e
        obtain ⟨c, hc, e⟩ := Option.map_eq_some_iff.mp e
        cases e
        exact .inr (.inr ⟨z, i, c, rv_str rx, rv_int ry, okN_le hz, hc, q ρ H _ (.refl _ _) R mk_str⟩)
      · rw [if_neg hz] at e; cases e
    · cases e
  · cases e
theorem e_ix {a b : Expr} {fa fb : De} (ha : SE g X W n a fa) (hb : SE g X W n b fb) (hs : PlainIx b := by exact fun _ _ => rfl) : SE g X W n (.Subscript a b pos) (dOp kIx fa fb) :=
  fun C => (pe_ix ix_seq (ha C) (hb C) hs).imp fun _ _ _ h => C.K ▸ op_imp p_ix h
end
section
variable {g : Gd} {X : Cx}
def mulOk (i j : Int) : Bool := (decide (-(2 ^ 64) < i) && decide (i < 2 ^ 64)) || (decide (-(2 ^ 64) < j) && decide (j < 2 ^ 64))
theorem mulOk_ok {i j : Int} (h : mulOk i j = true) : CMul i j := by
  unfold mulOk at h
  simp only [Bool.or_eq_true, Bool.and_eq_true, decide_eq_true_eq] at h
  exact h
def kAdd : K2 := fun x y h => match x, y with
  | .int i, .int j => some (.int (i + j), h)
  | .tup xs, .tup ys => if okN (xs.length + ys.length) then some (.tup (xs ++ ys), h) else none
  | .str a, .str b => if okN (a.length + b.length) then some (.str (a ++ b), h) else none
  | .ref r, .ref t => match h[r]? with
    | some (.lst xs) => match h[t]? with
      | some (.lst ys) => if okN (xs.length + ys.length) then some (.ref h.length, h ++ [.lst (xs ++ ys)]) else none
      | _ => none
    | _ => none
  | _, _ => none
abbrev rAddA (K : PySem.W.Frag) : R2 := fun x y H Q => (rI0 fun i j => .int (i + j)) x y H Q ∨ rCatN K x y H Q ∨ (∃ i j, x = .str i ∧ y = .str j ∧ i.length + j.length ≤ sizeLine ∧ Q (.str (i ++ j)) H) ∨ rCat x y H Q
theorem o_add : ∀ X : Cx, X.K = g.K → OpR X (binaryOp .Add) (rAddA g.K) := fun X hK => hK ▸ OpR.or op_add (OpR.or op_catN (OpR.or op_add_str op_cat))
theorem p_add : P2 g (rAddA g.K) kAdd := by
  intro ρ H hp x y vx vy v h' Q R rx ry e q
  unfold kAdd at e
  split at e
  · rename_i i j
    cases e
    exact .inl ⟨i, j, rv_int rx, rv_int ry, q ρ H _ (.refl _ _) R mk_int⟩
  · rename_i xs ys
    by_cases hz : okN (xs.length + ys.length) = true
    · rw [if_pos hz] at e
      cases e
      have rx' := rx
      have ry' := ry
      simp only [Rv] at rx ry
      obtain ⟨a, vs, rfl, ht, rv⟩ := rx
      obtain ⟨b, ws, rfl, ht2, rv2⟩ := ry
      refine .inr (.inl ⟨a, b, vs, ws, rfl, rfl, ht.sqT, ht2.sqT, by rw [← rv.length, ← rv2.length]; exact okN_le hz, fun z => ?_, fun _ z => ?_, fun _ _ p us hn => ?_⟩)
      · subst z
        have : xs = [] := List.eq_nil_of_length_eq_zero rv.length
        subst this
        exact q ρ H _ (.refl _ _) R (by simpa using ry')
      · subst z
        have : ys = [] := List.eq_nil_of_length_eq_zero rv2.length
        subst this
        exact q ρ H _ (.refl _ _) R (by simpa using rx')
      · obtain ⟨S4, R4, r4⟩ := new_tup (us := us) R hn (rv.append rv2)
        exact q _ _ _ S4 R4 r4
    · rw [if_neg hz] at e; cases e
  · rename_i a b
    by_cases hz : okN (a.length + b.length) = true
    · rw [if_pos hz] at e
      cases e
      exact .inr (.inr (.inl ⟨a, b, rv_str rx, rv_str ry, okN_le hz, q ρ H _ (.refl _ _) R mk_str⟩))
    · rw [if_neg hz] at e; cases e
  · rename_i r t
    split at e
    · rename_i xs hx
      split at e
      · rename_i ys hy
        by_cases hz : okN (xs.length + ys.length) = true
        · rw [if_pos hz] at e
          cases e
          simp only [Rv] at rx ry
          obtain ⟨a, ha, rfl⟩ := rx
          obtain ⟨b, hb, rfl⟩ := ry
          obtain ⟨vs, e2, rv⟩ := R.obj r a _ ha hx
          obtain ⟨ws, e3, rv2⟩ := R.obj t b _ hb hy
          refine .inr (.inr (.inr ⟨a, b, vs, ws, rfl, rfl, e2, e3, by rw [← rv.length, ← rv2.length]; exact okN_le hz, fun p hn => ?_⟩))
          obtain ⟨S4, R4, r4⟩ := new_lst R hn (rv.append rv2)
          exact q _ _ _ S4 R4 r4
        · rw [if_neg hz] at e; cases e
      · cases e
    · cases e
  · cases e
def kSub : K2 := kI fun i j => .int (i - j)
theorem o_sub : ∀ X : Cx, X.K = g.K → OpR X (binaryOp .Sub) (rI0 fun i j => .int (i - j)) := fun X hK => op_sub
theorem p_sub : P2 g (rI0 fun i j => .int (i - j)) kSub := p_I fun _ _ _ _ => mk_int
/-- int * int, list * int, tuple * int -/
def kMul : K2 := fun x y h => match x, y with
  | .int i, .int j => if mulOk i j then some (.int (i * j), h) else none
  | .ref r, .int k => match h[r]? with
    | some (.lst xs) => if decide (-(2 ^ 63) ≤ k) && decide (k < 2 ^ 63) && okN (xs.length * k.toNat) then some (.ref h.length, h ++ [.lst (List.replicate k.toNat xs).flatten]) else none
    | _ => none
  | _, _ => none
abbrev rMulA : R2 := fun x y H Q => (rI CMul fun i j => .int (i * j)) x y H Q ∨ rRep x y H Q
theorem o_mul : ∀ X : Cx, X.K = g.K → OpR X (binaryOp .Mult) rMulA := fun X hK => OpR.or op_mul op_rep
theorem Rvs.rep {ρ : List Addr} {H : Hp} {xs : List Va} {vs : List V} (h : Rvs g ρ H xs vs) : ∀ k : Nat, Rvs g ρ H (List.replicate k xs).flatten (List.replicate k vs).flatten
  | 0 => by simpa using Rvs.nil
  | k + 1 => by
    simp only [List.replicate_succ, List.flatten_cons]
    exact h.append (Rvs.rep h k)
theorem p_mul : P2 g rMulA kMul := by
  intro ρ H hp x y vx vy v h' Q R rx ry e q
  unfold kMul at e
  split at e
  · rename_i i j
    by_cases hz : mulOk i j = true
    · rw [if_pos hz] at e
      cases e
      exact .inl ⟨i, j, rv_int rx, rv_int ry, mulOk_ok hz, q ρ H _ (.refl _ _) R mk_int⟩
    · rw [if_neg hz] at e; cases e
  · rename_i r k
    split at e
    · rename_i xs hx
      by_cases hz : (decide (-(2 ^ 63) ≤ k) && decide (k < 2 ^ 63) && okN (xs.length * k.toNat)) = true
      · rw [if_pos hz] at e
        cases e
        simp only [Bool.and_eq_true, decide_eq_true_eq] at hz
        simp only [Rv] at rx
        obtain ⟨a, ha, rfl⟩ := rx
        obtain ⟨vs, e2, rv⟩ := R.obj r a _ ha hx
        refine .inr ⟨a, k, vs, rfl, rv_int ry, e2, hz.1.1, hz.1.2, by rw [← rv.length]; exact okN_le hz.2, fun p hn => ?_⟩
        obtain ⟨S4, R4, r4⟩ := new_lst R hn (rv.rep k.toNat)
        exact q _ _ _ S4 R4 r4
      · rw [if_neg hz] at e; cases e
    · cases e
  · cases e
def kMod : K2 := fun x y h => match x, y with
  | .int i, .int j => if decide (0 < j) then some (.int (i % j), h) else none
  | _, _ => none
theorem o_mod : ∀ X : Cx, X.K = g.K → OpR X (binaryOp .Mod) (rI (fun _ j => 0 < j) fun i j => .int (i % j)) := fun X hK => op_mod
theorem p_mod : P2 g (rI (fun _ j => 0 < j) fun i j => .int (i % j)) kMod := by
  intro ρ H hp x y vx vy v h' Q R rx ry e q
  unfold kMod at e
  split at e
  · rename_i i j
    by_cases hz : decide (0 < j) = true
    · rw [if_pos hz] at e
      cases e
      exact ⟨i, j, rv_int rx, rv_int ry, of_decide_eq_true hz, q ρ H _ (.refl _ _) R mk_int⟩
    · rw [if_neg hz] at e; cases e
  · cases e
end
end Wr
set_option Elab.async false
set_option linter.all false
set_option maxRecDepth 100000
set_option maxHeartbeats 4000000
set_option autoImplicit false
namespace Wr
open PySem PySem.Spec PyProof.Rows L2
abbrev K1 := List Va → Hs → Option (Va × Hs)
def PC1 (g : Gd) (r : List V → Hp → VK → Prop) (k : K1) : Prop := ∀ (ρ : List Addr) (H : Hp) (hp : Hs) (xs : List Va) (vs : List V) (v : Va) (h' : Hs) (Q : VK), Rh g ρ H hp → Rvs g ρ H xs vs → k xs hp = some (v, h') →
  (∀ ρ' H' z, Sp1 ρ H ρ' H' → Rh g ρ' H' h' → Rv g ρ' H' v z → Q z H') → r vs H Q
def dB (k : K1) (f : Da) : De := fun s h => (f s h).bind fun xs h1 => liftO (k xs h1)
abbrev CallC (g : Gd) (f : Value) (r : List V → Hp → VK → Prop) : Prop := ∀ X : Cx, X.K = g.K → X.calm = true → X.A.units + 100 < cLine → CallR X f r
section
variable {g : Gd} {X : Cx} {W : WX} {n : Nat} {pos p : Pos} {e : Expr} {es : List Expr}
theorem b_imp {r : List V → Hp → VK → Prop} {k : K1} (pk : PC1 g r k) {f : Da} {σ : L2.St} {H : Hp} {Q : VK} (h : tE g W (dB k f) σ H Q) : tCB r (tA g W f) σ H Q := by
  obtain ⟨ρ, s, hp, R, L, h⟩ := h
  refine aBE h R L fun xs h1 ρ1 H1 vs S1 R1 r1 L1 p1 => ?_
  cases q : k xs h1 with
  | none => rw [q] at p1; exact p1.elim
  | some w =>
    obtain ⟨v, h2⟩ := w
    rw [q] at p1
    exact pk ρ1 H1 h1 xs vs v h2 Q R1 r1 q fun ρ2 H2 z S2 R2 r2 => p1 ρ2 H2 z S2 R2 r2
theorem e_callB {x : Str} {id : String} {f : Da} {r : List V → Hp → VK → Prop} {k : K1} (hc : CallC g (.builtin id) r) (pk : PC1 g r k) (hm : X.mg x = none) (ha : SA g X W (n + 1) (e :: es) f) (hv : bootBuiltins x = some (.builtin id) := by decide +kernel) (hg : Gl X x := by rfl)
    (hn : x ≠ "__name__" := by decide) (hdb : (x == ("__debug__" : Str)) = false := by decide) (hs : starEach (e :: es) X.env = (false, eval e X.env) :: starEach es X.env := by rfl) (hpl : (backTo pos (starEach es X.env)).any (·.1) = false := by rfl) :
    SE g X W (n + 1) (.Call (.Name x p) (e :: es) [] pos) (dB k f) := fun C => (pe_callB (hc X C.K C.calm C.units) hg hm hv (ha C) hn hdb hs hpl).imp fun _ _ _ h => b_imp pk h
theorem e_callT {x : Str} {T : String} {f : Da} {r : List V → Hp → VK → Prop} {k : K1} (hc : CallC g (.type T) r) (pk : PC1 g r k) (hm : X.mg x = none) (ha : SA g X W (n + 1) (e :: es) f) (hv : bootBuiltins x = some (.type T) := by decide +kernel) (hg : Gl X x := by rfl)
    (hn : x ≠ "__name__" := by decide) (hdb : (x == ("__debug__" : Str)) = false := by decide) (hs : starEach (e :: es) X.env = (false, eval e X.env) :: starEach es X.env := by rfl) (hpl : (backTo pos (starEach es X.env)).any (·.1) = false := by rfl) :
    SE g X W (n + 1) (.Call (.Name x p) (e :: es) [] pos) (dB k f) := fun C => (pe_callTy (hc X C.K C.calm C.units) hg hm hv (ha C) hn hdb hs hpl).imp fun _ _ _ h => b_imp pk h
/-- a builtin that looks at no handled exception -/
theorem e_callX {x : Str} {id : String} {f : Da} {r : List V → Hp → VK → Prop} {k : K1} (hc : CallR X (.builtin id) r) (pk : PC1 g r k) (hm : X.mg x = none) (ha : SA g X W n (e :: es) f) (hv : bootBuiltins x = some (.builtin id) := by decide +kernel) (hg : Gl X x := by rfl)
    (hn : x ≠ "__name__" := by decide) (hdb : (x == ("__debug__" : Str)) = false := by decide) (hs : starEach (e :: es) X.env = (false, eval e X.env) :: starEach es X.env := by rfl) (hpl : (backTo pos (starEach es X.env)).any (·.1) = false := by rfl) :
    SE g X W n (.Call (.Name x p) (e :: es) [] pos) (dB k f) := fun C => (pe_callB hc hg hm hv (ha C) hn hdb hs hpl).imp fun _ _ _ h => b_imp pk h
end
section
variable {g : Gd}
theorem Rvs.inv1 {ρ : List Addr} {H : Hp} {x : Va} {vs : List V} (h : Rvs g ρ H [x] vs) : ∃ v, vs = [v] ∧ Rv g ρ H x v := by
  simp only [Rvs] at h
  obtain ⟨v, r, rfl, h1, rfl⟩ := h
  exact ⟨v, rfl, h1⟩
theorem Rvs.inv2 {ρ : List Addr} {H : Hp} {x y : Va} {vs : List V} (h : Rvs g ρ H [x, y] vs) : ∃ v w, vs = [v, w] ∧ Rv g ρ H x v ∧ Rv g ρ H y w := by
  simp only [Rvs] at h
  obtain ⟨v, r, rfl, h1, w, r', rfl, h2, rfl⟩ := h
  exact ⟨v, w, rfl, h1, h2⟩
def kLen : K1 := fun xs h => match xs with
  | [.tup ys] => some (.int ys.length, h)
  | [.ref r] => match h[r]? with
    | some (.lst ys) => some (.int ys.length, h)
    | _ => none
  | [.str z] => if okN z.length then some (.int z.length, h) else none
  | _ => none
abbrev rLenA (K : PySem.W.Frag) : List V → Hp → VK → Prop := fun xs H Q => (∃ p ys, xs = [.ref p] ∧ (SqL K H p ys ∨ SqT K H p ys) ∧ Q (.int ys.length) H) ∨ ∃ z, xs = [.str z] ∧ z.length ≤ sizeLine ∧ Q (.int z.length) H
theorem c_len : CallC g (.builtin "len") (rLenA g.K) := fun X hK _ _ => hK ▸ CallR.or call_len_seq call_len_str
theorem p_len : PC1 g (rLenA g.K) kLen := by
  intro ρ H hp xs vs v h' Q R r e q
  unfold kLen at e
  split at e
  · rename_i ys
    cases e
    obtain ⟨w, rfl, rw'⟩ := r.inv1
    simp only [Rv] at rw'
    obtain ⟨a, us, rfl, ht, rv⟩ := rw'
    exact .inl ⟨a, us, rfl, .inr ht.sqT, by rw [← rv.length]; exact q ρ H _ (.refl _ _) R mk_int⟩
  · rename_i i
    split at e
    · rename_i ys hy
      cases e
      obtain ⟨w, rfl, rw'⟩ := r.inv1
      simp only [Rv] at rw'
      obtain ⟨a, ha, rfl⟩ := rw'
      obtain ⟨us, e2, rv⟩ := R.obj i a _ ha hy
      exact .inl ⟨a, us, rfl, .inl (.inl (.inl e2)), by rw [← rv.length]; exact q ρ H _ (.refl _ _) R mk_int⟩
    · cases e
  · rename_i z
    by_cases hz : okN z.length = true
    · rw [if_pos hz] at e
      cases e
      obtain ⟨w, rfl, rw'⟩ := r.inv1
      exact .inr ⟨z, by rw [rv_str rw'], okN_le hz, q ρ H _ (.refl _ _) R mk_int⟩
    · rw [if_neg hz] at e; cases e
  · cases e
def bls : List Va → Option (List Bool)
  | [] => some []
  | .bl b :: t => (bls t).map (b :: ·)
  | _ => none
theorem bls_rv {ρ : List Addr} {H : Hp} : ∀ {xs : List Va} {vs : List V} {bs : List Bool}, Rvs g ρ H xs vs → bls xs = some bs → vs = bs.map V.bl
  | [], _, _, r, e => by simp only [Rvs] at r; cases e; exact r
  | x :: xs, _, bs, r, e => by
    simp only [Rvs] at r
    obtain ⟨v, vr, rfl, r1, r2⟩ := r
    cases x with
    | bl b =>
      simp only [bls] at e
      obtain ⟨t, ht, rfl⟩ := Option.map_eq_some_iff.mp e
      rw [rv_bl r1, bls_rv r2 ht]
      rfl
    | _ => exact nomatch e
def intsV : List Va → Option (List Int)
  | [] => some []
  | .int b :: t => (intsV t).map (b :: ·)
  | _ => none
/-- the list that is the one argument -/
def lstArg (xs : List Va) (h : Hs) : Option (List Va) := match xs with
  | [.ref r] => match h[r]? with
    | some (.lst ys) => some ys
    | _ => none
  | _ => none
theorem lstArg_inv {ρ : List Addr} {H : Hp} {hp : Hs} {xs ys : List Va} {vs : List V} (R : Rh g ρ H hp) (r : Rvs g ρ H xs vs) (e : lstArg xs hp = some ys) : ∃ a us, vs = [.ref a] ∧ H a = some (.lst us) ∧ Rvs g ρ H ys us := by
  unfold lstArg at e
  split at e
  · rename_i i
    split at e
    · rename_i zs hz
      cases e
      obtain ⟨w, rfl, rw'⟩ := r.inv1
      simp only [Rv] at rw'
      obtain ⟨a, ha, rfl⟩ := rw'
      obtain ⟨us, e2, rv⟩ := R.obj i a _ ha hz
      exact ⟨a, us, rfl, e2, rv⟩
    · cases e
  · cases e
def kAll : K1 := fun xs h => (lstArg xs h).bind fun ys => (bls ys).map fun bs => (.bl (bs.all id), h)
def kAny : K1 := fun xs h => (lstArg xs h).bind fun ys => (bls ys).map fun bs => (.bl (bs.any id), h)
theorem c_all : CallC g (.builtin "all") (rAll g.K) := fun X hK hc _ => hK ▸ cr_all hc
theorem p_all : PC1 g (rAll g.K) kAll := by
  intro ρ H hp xs vs v h' Q R r e q
  obtain ⟨ys, h1, e⟩ := Option.bind_eq_some_iff.mp e
  obtain ⟨bs, h2, e⟩ := Option.map_eq_some_iff.mp e
  cases e
  obtain ⟨a, us, rfl, e2, rv⟩ := lstArg_inv R r h1
  exact ⟨a, bs, rfl, by rw [← bls_rv rv h2]; exact .inl (.inl e2), q ρ H _ (.refl _ _) R mk_bl⟩
def kSum : K1 := fun xs h => (lstArg xs h).bind fun ys => (intsV ys).map fun ns => (.int ns.sum, h)
def minI : Int → List Int → Int
  | m, [] => m
  | m, x :: t => minI (if x < m then x else m) t
def maxI : Int → List Int → Int
  | m, [] => m
  | m, x :: t => maxI (if m < x then x else m) t
def kMin : K1 := fun xs h => match xs with
  | [.int i, .int j] => some (.int (if j < i then j else i), h)
  | _ => (lstArg xs h).bind fun ys => (intsV ys).bind fun ns => match ns with
    | [] => none
    | m :: t => some (.int (minI m t), h)
def kMax : K1 := fun xs h => match xs with
  | [.int i, .int j] => some (.int (if j > i then j else i), h)
  | _ => (lstArg xs h).bind fun ys => (intsV ys).bind fun ns => match ns with
    | [] => none
    | m :: t => some (.int (maxI m t), h)
def kTuple : K1 := fun xs h => match xs with
  | [.tup ys] => some (.tup ys, h)
  | _ => (lstArg xs h).map fun ys => (.tup ys, h)
theorem c_tuple : CallC g (.type "tuple") (rTupOf g.K) := fun X hK _ _ => hK ▸ cr_tuple
theorem p_tuple : PC1 g (rTupOf g.K) kTuple := by
  intro ρ H hp xs vs v h' Q R r e q
  unfold kTuple at e
  split at e
  · cases e
    obtain ⟨w, rfl, rw'⟩ := r.inv1
    have rw2 := rw'
    simp only [Rv] at rw'
    obtain ⟨a, us, rfl, ht, rv⟩ := rw'
    exact ⟨a, us, rfl, .inr ⟨ht.sqT, q ρ H _ (.refl _ _) R rw2⟩⟩
  · obtain ⟨ys, h1, e⟩ := Option.map_eq_some_iff.mp e
    cases e
    obtain ⟨a, us, rfl, e2, rv⟩ := lstArg_inv R r h1
    refine ⟨a, us, rfl, .inl ⟨.inl (.inl e2), fun p ws hn => ?_⟩⟩
    obtain ⟨S4, R4, r4⟩ := new_tup (us := ws) R hn rv
    exact q _ _ _ S4 R4 r4
def kList : K1 := fun xs h => match xs with
  | [.tup ys] => some (.ref h.length, h ++ [.lst ys])
  | _ => (lstArg xs h).map fun ys => (.ref h.length, h ++ [.lst ys])
abbrev rListOf (K : PySem.W.Frag) : List V → Hp → VK → Prop := fun xs H Q => ∃ p ys, xs = [.ref p] ∧ (SqL K H p ys ∨ SqT K H p ys) ∧ ∀ l, H l = none → Q (.ref l) (upd H l (.lst ys))
theorem c_list : CallC g (.type "list") (rListOf g.K) := fun X hK _ _ => hK ▸ call_list_of
theorem p_list : PC1 g (rListOf g.K) kList := by
  intro ρ H hp xs vs v h' Q R r e q
  unfold kList at e
  split at e
  · cases e
    obtain ⟨w, rfl, rw'⟩ := r.inv1
    simp only [Rv] at rw'
    obtain ⟨a, us, rfl, ht, rv⟩ := rw'
    refine ⟨a, us, rfl, .inr ht.sqT, fun p hn => ?_⟩
    obtain ⟨S4, R4, r4⟩ := new_lst R hn rv
    exact q _ _ _ S4 R4 r4
  · obtain ⟨ys, h1, e⟩ := Option.map_eq_some_iff.mp e
    cases e
    obtain ⟨a, us, rfl, e2, rv⟩ := lstArg_inv R r h1
    refine ⟨a, us, rfl, .inl (.inl (.inl e2)), fun p hn => ?_⟩
    obtain ⟨S4, R4, r4⟩ := new_lst R hn rv
    exact q _ _ _ S4 R4 r4
def kInt : K1 := fun xs h => match xs with
  | [.int i] => some (.int i, h)
  | [.bl b] => some (.int (if b then 1 else 0), h)
  | _ => none
abbrev rIntOf : List V → Hp → VK → Prop := fun xs H Q => (∃ i, xs = [.int i] ∧ Q (.int i) H) ∨ ∃ k, xs = [.bl k] ∧ Q (.int (if k then 1 else 0)) H
theorem c_int : CallC g (.type "int") rIntOf := fun X hK _ _ => call_int1
theorem p_int : PC1 g rIntOf kInt := by
  intro ρ H hp xs vs v h' Q R r e q
  unfold kInt at e
  split at e
  · cases e
    exact .inl ⟨_, r.int1, q ρ H _ (.refl _ _) R mk_int⟩
  · cases e
    obtain ⟨w, rfl, rw'⟩ := r.inv1
    exact .inr ⟨_, by rw [rv_bl rw'], q ρ H _ (.refl _ _) R mk_int⟩
  · cases e
def tyOf (x : Va) (h : Hs) : Option String := match x with
  | .non => some "NoneType"
  | .bl _ => some "bool"
  | .int _ => some "int"
  | .str _ => some "str"
  | .tup _ => some "tuple"
  | .ref r => match h[r]? with
    | some (.lst _) => some "list"
    | some (.dK _) => some "dict"
    | _ => none
  | _ => none
/-- the answers that are asked, worked out once -/
def isiT (a b : String) : Option Bool :=
  if b == "int" then some (a == "int" || a == "bool") else if b == "bool" then some (a == "bool") else if b == "tuple" then some (a == "tuple") else if b == "str" then some (a == "str") else if b == "list" then some (a == "list") else none
def kIsi : K1 := fun xs h => match xs with
  | [x, .ty b] => match tyOf x h with
    | some a => (isiT a b).map fun r => (.bl r, h)
    | none => none
  | _ => none
theorem tyOf_ty {ρ : List Addr} {H : Hp} {hp : Hs} {x : Va} {v : V} {a : String} (R : Rh g ρ H hp) (r : Rv g ρ H x v) (e : tyOf x hp = some a) : TyX g.K H v (.type a) ∧ a ∈ ["NoneType", "bool", "int", "str", "tuple", "list", "dict"] := by
  cases x with
  | non => cases e; rw [rv_non r]; exact ⟨.base .non, by decide⟩
  | bl b => cases e; rw [rv_bl r]; exact ⟨.base (.bl b), by decide⟩
  | int i => cases e; rw [rv_int r]; exact ⟨.base (.int i), by decide⟩
  | str z => cases e; rw [rv_str r]; exact ⟨.base (.str z), by decide⟩
  | tup xs =>
    cases e
    simp only [Rv] at r
    obtain ⟨p, us, rfl, ht, rv⟩ := r
    rcases ht with ⟨o, h1, _⟩ | ⟨o, its, m, h1, h2, _⟩
    · exact ⟨.fTuple h1, by decide⟩
    · exact ⟨.kTuple h1 h2, by decide⟩
  | ref i =>
    simp only [Rv] at r
    obtain ⟨p, ha, rfl⟩ := r
    unfold tyOf at e
    simp only at e
    split at e
    · rename_i ys hy
      cases e
      obtain ⟨us, e2, rv⟩ := R.obj i p _ ha hy
      exact ⟨.base (.lst e2), by decide⟩
    · rename_i ys hy
      cases e
      obtain ⟨us, e2, rv⟩ := R.obj i p _ ha hy
      exact ⟨.base (.dK e2), by decide⟩
    · cases e
  | _ => exact nomatch e
theorem isiT_ok : ∀ a ∈ ["NoneType", "bool", "int", "str", "tuple", "list", "dict"], ∀ b ∈ ["int", "bool", "tuple", "str", "list"], kitB a b = isiT a b := by decide +kernel
theorem isiT_cls {a b : String} {r : Bool} (h : isiT a b = some r) : b ∈ ["int", "bool", "tuple", "str", "list"] := by
  unfold isiT at h
  by_cases h1 : b = "int"
  · subst h1; decide
  by_cases h2 : b = "bool"
  · subst h2; decide
  by_cases h3 : b = "tuple"
  · subst h3; decide
  by_cases h4 : b = "str"
  · subst h4; decide
  by_cases h5 : b = "list"
  · subst h5; decide
  simp [h1, h2, h3, h4, h5] at h
theorem c_isi : CallC g (.builtin "isinstance") (rIsi g.K) := fun X hK _ _ => hK ▸ call_isi
theorem p_isi : PC1 g (rIsi g.K) kIsi := by
  intro ρ H hp xs vs v h' Q R r e q
  unfold kIsi at e
  split at e
  · rename_i x b
    split at e
    · rename_i a ha
      obtain ⟨t, ht, e⟩ := Option.map_eq_some_iff.mp e
      cases e
      obtain ⟨w, w2, rfl, r1, r2⟩ := r.inv2
      obtain ⟨ty, hm⟩ := tyOf_ty R r1 ha
      exact ⟨w, .ty b, .type a, .type b, t, by rw [rv_ty r2], .ty b, ty, kit_ty (by rw [isiT_ok a hm b (isiT_cls ht)]; exact ht), q ρ H _ (.refl _ _) R mk_bl⟩
    · cases e
  · cases e
end
end Wr
set_option Elab.async false
set_option linter.all false
set_option maxRecDepth 100000
set_option maxHeartbeats 4000000
set_option autoImplicit false
namespace Wr
open PySem PySem.Spec PyProof.Rows L2
def tyN (K : PySem.W.Frag) (T : String) (x : V) (H : Hp) : Prop := tyV K T x H ∨ (T = "tuple" ∧ ∃ a xs, x = .ref a ∧ SqN K H a xs)
section
variable {X : Cx}
theorem tyN_is {pins : List (Addr × Obj)} {σ : L2.St} {H : Hp} {s : Shared} {T : String} {x : V} {v : Value} (I : Inv X pins σ H s) (r : RelV x v) (ty : tyN X.K T x H) : s.TypeIs v T ∧ ∀ a, v = .ref a → ∃ ob, s.heap.get? a = some ob ∧ ob.dict = none := by
  rcases ty with ty | ⟨rfl, a, xs, rfl, h⟩
  · exact tyV_is I r ty
  · cases r
    rcases h with ⟨o, h1, h2⟩ | ⟨o, its, m, h1, h2, h3, _⟩
    · obtain ⟨e, _, _, _, o2, e2, c2, _⟩ := I.hok a _ h1
      rw [e] at e2; cases e2
      exact ⟨⟨o, e, c2⟩, fun b z => by cases z; exact ⟨o, e, h2⟩⟩
    · exact ⟨⟨o, I.kIn a o h1, h2⟩, fun b z => by cases z; exact ⟨o, I.kIn a o h1, h3⟩⟩
def tBMN (K : PySem.W.Frag) (T : String) (r : V → List V → Hp → VK → Prop) (to : TE) (t : TA) : TE := fun σ H Q => to σ H fun x H1 => tyN K T x H1 ∧ t σ H1 fun xs H2 => r x xs H2 Q
variable {o e : Expr} {es : List Expr} {to : TE} {t : TA} {name : Str} {apos cpos : Pos} {T id : String} {r : V → List V → Hp → VK → Prop}
/-- what the text of a method's call is to be like -/
structure MForm (X : Cx) (o : Expr) (name : Str) (e : Expr) (es : List Expr) (apos cpos : Pos) : Prop where
  base : attributeBase o name X.env (eval o X.env) = eval o X.env
  few : ((backTo cpos (starEach (e :: es) X.env)).all (fun x => !x.1) && (backToKw cpos (keywordEach [] X.env)).all (fun x => x.1.isSome)
      && decide ((e :: es).length + ([] : List Keyword).length + (if ([] : List Keyword).isEmpty then 0 else 1) < 30)) = true
  line : (apos.endLine == cpos.line) = true
  star : starEach (e :: es) X.env = (false, eval e X.env) :: starEach es X.env
  plain : (backTo cpos (starEach es X.env)).any (·.1) = false
theorem pe_bmN (M : MForm X o name e es apos cpos) (pa : PlainAttrs T) (slot : Slot T name id) (hty : typeOf (.builtin id) = pure (.type "method_descriptor")) (hm : MtR X id r) (ho : PE X o to) (ha : PA X (e :: es) t) :
    PE X (.Call (.Attribute o name apos) (e :: es) [] cpos) (tBMN X.K T r to t) := by
  constructor
  intro pins s σ H Q I h
  refine wpAny_Call_method_late M.base M.few M.line rfl (thn (ho.run pins s σ H _ I h) ?_)
  rintro v s1 ⟨x, H1, I1, r1, ty, q1⟩
  obtain ⟨h1, h2⟩ := tyN_is I1 r1 ty
  refine ⟨T, id, pa, slot, hty, h1, h2, ?_⟩
  have hA := ha.run cpos pins s1 σ H1 _ I1 q1
  have st := M.star
  rw [st] at hA ⊢
  have pl : ((false, eval e X.env) :: backTo cpos (starEach es X.env)).any (·.1) = false := by rw [List.any_cons, M.plain]; rfl
  refine Calls.callWith_builtin pl (Calls.evalArgs_plain (thn hA ?_))
  rintro us s2 ⟨vs, H2, I2, r2, q2⟩
  exact hm pins s2 σ H2 x vs v us Q I2 r1 r2 q2
theorem _root_.L2.PE.or {X : Cx} {e : Expr} {t t' : TE} (h : PE X e t) (h' : PE X e t') : PE X e (fun σ H Q => t σ H Q ∨ t' σ H Q) := ⟨fun pins s σ H Q I w => by
  rcases w with w | w
  · exact h.run pins s σ H Q I w
  · exact h'.run pins s σ H Q I w⟩
end
abbrev KM := Va → List Va → Hs → Option (Va × Hs)
def PM1 (g : Gd) (r : V → List V → Hp → VK → Prop) (k : KM) : Prop := ∀ (ρ : List Addr) (H : Hp) (hp : Hs) (x : Va) (vx : V) (xs : List Va) (vs : List V) (v : Va) (h' : Hs) (Q : VK), Rh g ρ H hp → Rv g ρ H x vx → Rvs g ρ H xs vs → k x xs hp = some (v, h') →
  (∀ ρ' H' z, Sp1 ρ H ρ' H' → Rh g ρ' H' h' → Rv g ρ' H' v z → Q z H') → r vx vs H Q
def isTy (T : String) (x : Va) (h : Hs) : Bool := match x with
  | .tup _ => T == "tuple"
  | .str _ => T == "str"
  | .ref r => match h[r]? with
    | some (.lst _) => T == "list"
    | _ => false
  | _ => false
def dM (T : String) (k : KM) (fo : De) (fa : Da) : De := fun s h => (fo s h).bind fun x h1 => match isTy T x h1 with
  | true => (fa s h1).bind fun xs h2 => liftO (k x xs h2)
  | false => .no
/-- one of two types by the value -/
def dM2 (T : String) (k : KM) (T2 : String) (k2 : KM) (fo : De) (fa : Da) : De := fun s h => (fo s h).bind fun x h1 => match isTy T x h1 with
  | true => (fa s h1).bind fun xs h2 => liftO (k x xs h2)
  | false => match isTy T2 x h1 with
    | true => (fa s h1).bind fun xs h2 => liftO (k2 x xs h2)
    | false => .no
abbrev MtC (g : Gd) (id : String) (r : V → List V → Hp → VK → Prop) : Prop := ∀ X : Cx, X.K = g.K → X.A.units + 100 < cLine → MtR X id r
section
variable {g : Gd} {X : Cx} {W : WX} {n : Nat} {o e : Expr} {es : List Expr} {name : Str} {apos cpos : Pos} {T id : String} {r : V → List V → Hp → VK → Prop} {k : KM} {fo : De} {fa : Da}
theorem isTy_ok {ρ : List Addr} {H : Hp} {hp : Hs} {x : Va} {vx : V} (R : Rh g ρ H hp) (rx : Rv g ρ H x vx) (h : isTy T x hp = true) : tyN g.K T vx H := by
  cases x with
  | tup xs =>
    have : T = "tuple" := by simpa [isTy] using h
    subst this
    simp only [Rv] at rx
    obtain ⟨a, us, rfl, ht, rv⟩ := rx
    exact .inr ⟨rfl, a, us, rfl, ht⟩
  | str z =>
    have : T = "str" := by simpa [isTy] using h
    rw [rv_str rx]
    exact .inl this
  | ref i =>
    simp only [Rv] at rx
    obtain ⟨a, ha, rfl⟩ := rx
    unfold isTy at h
    simp only at h
    split at h
    · rename_i ys hy
      obtain ⟨us, e2, rv⟩ := R.obj i a _ ha hy
      exact .inl (.inl ⟨by simpa using h, us, .inl (.inl e2)⟩)
    · cases h
  | _ => exact nomatch h
theorem m_imp (pk : PM1 g r k) {σ : L2.St} {H : Hp} {Q : VK} (h : tE g W (dM T k fo fa) σ H Q) : tBMN g.K T r (tE g W fo) (tA g W fa) σ H Q := by
  obtain ⟨ρ, s, hp, R, L, h⟩ := h
  refine bE h R L fun x h1 ρ1 H1 vx S1 R1 r1 L1 p1 => ?_
  cases ty : isTy T x h1 with
  | false => rw [ty] at p1; exact p1.elim
  | true =>
    rw [ty] at p1
    refine ⟨isTy_ok R1 r1 ty, aBE p1 R1 L1 fun xs h2 ρ2 H2 vs S2 R2 r2 L2 p2 => ?_⟩
    cases q : k x xs h2 with
    | none => rw [q] at p2; exact p2.elim
    | some w =>
      obtain ⟨v, h3⟩ := w
      rw [q] at p2
      exact pk ρ2 H2 h2 x vx xs vs v h3 Q R2 (Rv.step R1 S2 _ _ r1) r2 q fun ρ3 H3 z S3 R3 r3 => p2 ρ3 H3 z S3 R3 r3
theorem e_meth (pa : PlainAttrs T) (slot : Slot T name id) (hty : typeOf (.builtin id) = pure (.type "method_descriptor")) (hm : MtC g id r) (pk : PM1 g r k) (ho : SE g X W n o fo) (ha : SA g X W n (e :: es) fa) (M : MForm X o name e es apos cpos := by exact ⟨rfl, rfl, rfl, rfl, rfl⟩) :
    SE g X W n (.Call (.Attribute o name apos) (e :: es) [] cpos) (dM T k fo fa) :=
  fun C => (pe_bmN M pa slot hty (hm X C.K C.units) (ho C) (ha C)).imp fun _ _ _ h => C.K ▸ m_imp pk h
theorem e_meth2 {T2 id2 : String} {r2 : V → List V → Hp → VK → Prop} {k2 : KM} (pa : PlainAttrs T) (slot : Slot T name id) (hty : typeOf (.builtin id) = pure (.type "method_descriptor")) (hm : MtC g id r) (pk : PM1 g r k)
    (pa2 : PlainAttrs T2) (slot2 : Slot T2 name id2) (hty2 : typeOf (.builtin id2) = pure (.type "method_descriptor")) (hm2 : MtC g id2 r2) (pk2 : PM1 g r2 k2) (ho : SE g X W n o fo) (ha : SA g X W n (e :: es) fa) (M : MForm X o name e es apos cpos := by exact ⟨rfl, rfl, rfl, rfl, rfl⟩) :
    SE g X W n (.Call (.Attribute o name apos) (e :: es) [] cpos) (dM2 T k T2 k2 fo fa) := by
  intro C
  refine (PE.or (pe_bmN M pa slot hty (hm X C.K C.units) (ho C) (ha C)) (pe_bmN M pa2 slot2 hty2 (hm2 X C.K C.units) (ho C) (ha C))).imp ?_
  rintro σ H Q ⟨ρ, s, hp, R, L, h⟩
  rw [C.K]
  unfold dM2 at h
  cases q : fo s hp with
  | no => rw [q] at h; exact h.elim
  | ex c h1 => rw [q] at h; exact .inl ⟨ρ, s, hp, R, L, by rw [q]; exact h⟩
  | ok x h1 =>
    rw [q] at h
    simp only [Rs.bind] at h
    cases ty : isTy T x h1 with
    | true =>
      rw [ty] at h
      refine .inl (m_imp pk ⟨ρ, s, hp, R, L, ?_⟩)
      unfold dM
      rw [q]
      simp only [Rs.bind, ty]
      exact h
    | false =>
      rw [ty] at h
      simp only at h
      cases ty2 : isTy T2 x h1 with
      | true =>
        rw [ty2] at h
        refine .inr (m_imp pk2 ⟨ρ, s, hp, R, L, ?_⟩)
        unfold dM
        rw [q]
        simp only [Rs.bind, ty2]
        exact h
      | false => rw [ty2] at h; exact h.elim
def kAppend : KM := fun x xs h => match x, xs with
  | .ref r, [y] => match h[r]? with
    | some (.lst ys) => if okN (ys.length + 1) then some (.non, h.set r (.lst (ys ++ [y]))) else none
    | _ => none
  | _, _ => none
theorem put_lst {ρ : List Addr} {H : Hp} {hp : Hs} {i : Nat} {a : Addr} {us ws : List V} {ys : List Va} (R : Rh g ρ H hp) (hi : ρ[i]? = some a) (e : H a = some (.lst us)) (rv : Rvs g ρ H ys ws) :
    Sp1 ρ H ρ (upd H a (.lst ws)) ∧ Rh g ρ (upd H a (.lst ws)) (hp.set i (.lst ys)) :=
  R.put hi (fun x y z => by rw [e] at z; cases z) fun S => ⟨ws, upd_same, Rvs.step R S _ _ rv⟩
theorem m_append : MtC g "list.append" rAppend := fun X hK hu => mt_append
theorem pm_append : PM1 g rAppend kAppend := by
  intro ρ H hp x vx xs vs v h' Q R rx r e q
  unfold kAppend at e
  split at e
  · rename_i i y
    split at e
    · rename_i ys hy
      by_cases hz : okN (ys.length + 1) = true
      · rw [if_pos hz] at e
        cases e
        simp only [Rv] at rx
        obtain ⟨a, ha, rfl⟩ := rx
        obtain ⟨us, e2, rv⟩ := R.obj i a _ ha hy
        obtain ⟨w, rfl, rw'⟩ := r.inv1
        obtain ⟨S1, R1⟩ := put_lst R ha e2 (rv.append (Rvs.one rw'))
        exact ⟨a, us, w, rfl, rfl, e2, by rw [← rv.length]; exact okN_le hz, q _ _ _ S1 R1 mk_non⟩
      · rw [if_neg hz] at e; cases e
    · cases e
  · cases e
def kExtend : KM := fun x xs h => match x, xs with
  | .ref r, [.ref t] => match h[r]? with
    | some (.lst ys) => match h[t]? with
      | some (.lst zs) => if okN (ys.length + zs.length) then some (.non, h.set r (.lst (ys ++ zs))) else none
      | _ => none
    | _ => none
  | _, _ => none
theorem m_extend : MtC g "list.extend" rExtend := fun X hK hu => mt_extend
theorem pm_extend : PM1 g rExtend kExtend := by
  intro ρ H hp x vx xs vs v h' Q R rx r e q
  unfold kExtend at e
  split at e
  · rename_i i t
    split at e
    · rename_i ys hy
      split at e
      · rename_i zs hzs
        by_cases hz : okN (ys.length + zs.length) = true
        · rw [if_pos hz] at e
          cases e
          simp only [Rv] at rx
          obtain ⟨a, ha, rfl⟩ := rx
          obtain ⟨us, e2, rv⟩ := R.obj i a _ ha hy
          obtain ⟨w, rfl, rw'⟩ := r.inv1
          simp only [Rv] at rw'
          obtain ⟨b, hb, rfl⟩ := rw'
          obtain ⟨us2, e3, rv2⟩ := R.obj t b _ hb hzs
          obtain ⟨S1, R1⟩ := put_lst R ha e2 (rv.append rv2)
          exact ⟨a, b, us, us2, rfl, rfl, e2, e3, by rw [← rv.length, ← rv2.length]; exact okN_le hz, q _ _ _ S1 R1 mk_non⟩
        · rw [if_neg hz] at e; cases e
      · cases e
    · cases e
  · cases e
def findD (d : PyData) : List PyData → Option Nat
  | [] => none
  | z :: t => if PyData.eqv z d then some 0 else (findD d t).map (· + 1)
theorem findD_ok {d : PyData} : ∀ {ds : List PyData} {j : Nat}, findD d ds = some j → ∃ z, ds[j]? = some z ∧ PyData.eqv z d = true ∧ ∀ (m : Nat) (z' : PyData), m < j → ds[m]? = some z' → PyData.eqv z' d = false
  | [], _, h => by cases h
  | z :: t, j, h => by
    unfold findD at h
    by_cases hz : PyData.eqv z d = true
    · rw [if_pos hz] at h
      cases h
      exact ⟨z, rfl, hz, fun m z' hm => absurd hm (Nat.not_lt_zero _)⟩
    · rw [if_neg hz] at h
      obtain ⟨i, hi, rfl⟩ := Option.map_eq_some_iff.mp h
      obtain ⟨w, h1, h2, h3⟩ := findD_ok hi
      refine ⟨w, by simpa using h1, h2, fun m z' hm hz' => ?_⟩
      cases m with
      | zero => simp at hz'; subst hz'; simpa using hz
      | succ m => exact h3 m z' (by omega) (by simpa using hz')
def kIndex : KM := fun x xs h => match xs with
  | [y] => match toD h 9 y with
    | some d => match toD h 9 x with
      | some (.list ds) => (findD d ds).map fun (j : Nat) => (.int (j : Int), h)
      | some (.tuple ds) => (findD d ds).map fun (j : Nat) => (.int (j : Int), h)
      | _ => none
    | none => none
  | _ => none
/-- t.index(x) of a tuple of data -/
def rIndexT (K : PySem.W.Frag) : V → List V → Hp → VK → Prop := fun x xs H Q => ∃ (y : V) (d : PyData) (ds : List PyData) (j : Nat), xs = [y] ∧ Dp K H x (.tuple ds) ∧ Dp K H y d ∧
  SeqAt.shaped (.tuple ds) = true ∧ SeqAt.shaped d = true ∧ findD d ds = some j ∧ Q (.int (j : Nat)) H
theorem m_indexT : MtC g "tuple.index" (rIndexT g.K) := by
  intro X hK hu pins s σ H x xs v us Q I rx rxs h
  rw [← hK] at h
  obtain ⟨y, d, ds, j, rfl, hl, hy, sl, sd, hf, q⟩ := h
  obtain ⟨uy, rfl, ry⟩ := vals1 rxs
  obtain ⟨z, hz, hzj, hno⟩ := findD_ok hf
  obtain ⟨bs, r1⟩ := Dp.reads I d y uy hy ry
  obtain ⟨as, r2⟩ := Dp.reads I (.tuple ds) x v hl rx
  have lay : PyData.canLayAll0 ds = true := SeqAt.canLay_of_shaped sl
  have room : X.A.units + 1 + min (PyData.depthAll ds) d.depth < cLine := PyProof.Rows.room_in_shaped sd (by omega)
  cases r2 with
  | tuple h1 h2 h3 h4 =>
    rename_i a o its m
    obtain ⟨cls, dd, data, sls⟩ := o
    simp only at h2 h3
    subst h2 h3
    have hn : its.toList.length = ds.length := SeqAt.ReadsAll.length ds its.toList _ h4
    have hmap : its.toList.map (SeqAt.readOf s.heap) = ds := SeqAt.readsAll_map ds its.toList _ lay h4
    have hjd : j < ds.length := (List.getElem?_eq_some_iff.mp hz).1
    have hj : j < its.size := by rw [← Array.length_toList, hn]; exact hjd
    have at_ : ∀ (m : Nat) (hm : m < its.size) (z' : PyData), ds[m]? = some z' → SeqAt.readOf s.heap its[m] = z' := by
      intro m hm z' hz'
      rw [← hmap, List.getElem?_map, List.getElem?_eq_getElem (by simpa using hm)] at hz'
      simpa using hz'
    refine call_meets PySem.F.slot_tuple_index ⟨_, h1, rfl⟩ PySem.F.entry_tuple_index (PySem.F.args_tuple_index_2 _ _)
      (TI.tuple_indexAt a its m dd sls uy (fun u => PyData.eqv (SeqAt.readOf s.heap u) d) j hj ?_ ?_) ⟨h1, SeqAt.items_eqAt (vs := its) h4 r1 lay (SeqAt.canLay_of_shaped sd) room, ⟨.int (j : Nat), H, I.tok _, ⟨_, rfl⟩, q⟩⟩
    · show PyData.eqv (SeqAt.readOf s.heap its[j]) d = true
      rw [at_ j hj z hz]; exact hzj
    · intro m hm hmj
      have hmd : m < ds.length := by omega
      show PyData.eqv (SeqAt.readOf s.heap its[m]) d = false
      rw [at_ m hm _ (List.getElem?_eq_getElem hmd)]
      exact hno m _ hmj (List.getElem?_eq_getElem hmd)
theorem pm_indexT : PM1 g (rIndexT g.K) (fun x xs h => match x with
    | .tup _ => kIndex x xs h
    | _ => none) := by
  intro ρ H hp x vx xs vs v h' Q R rx r e q
  simp only at e
  split at e
  · unfold kIndex at e
    split at e
    · split at e
      · rename_i d hd
        obtain ⟨w, rfl, rw'⟩ := r.inv1
        split at e
        · rename_i ds hds
          unfold toD at hds
          obtain ⟨_, _, z⟩ := Option.map_eq_some_iff.mp hds
          cases z
        · rename_i ds hds
          obtain ⟨j, hj, e⟩ := Option.map_eq_some_iff.mp e
          cases e
          exact ⟨w, d, ds, j, rfl, toD_dp R 9 _ vx _ rx hds, toD_dp R 9 _ w d rw' hd, toD_shaped hds, toD_shaped hd, hj, q ρ H _ (.refl _ _) R mk_int⟩
        · cases e
      · cases e
    · cases e
  · cases e
def kIndexT : KM := fun x xs h => match x with
  | .tup _ => kIndex x xs h
  | _ => none
def kIndexL : KM := fun x xs h => match x with
  | .ref _ => kIndex x xs h
  | _ => none
theorem m_indexL : MtC g "list.index" (rIndexD g.K) := fun X hK hu => hK ▸ mt_indexD (by omega)
theorem pm_indexL : PM1 g (rIndexD g.K) kIndexL := by
  intro ρ H hp x vx xs vs v h' Q R rx r e q
  unfold kIndexL at e
  split at e
  · rename_i i
    have rx' := rx
    simp only [Rv] at rx'
    obtain ⟨a, ha, rfl⟩ := rx'
    unfold kIndex at e
    split at e
    · split at e
      · rename_i d hd
        obtain ⟨w, rfl, rw'⟩ := r.inv1
        split at e
        · rename_i ds hds
          obtain ⟨j, hj, e⟩ := Option.map_eq_some_iff.mp e
          cases e
          obtain ⟨z, hz, hzj, hno⟩ := findD_ok hj
          exact ⟨a, w, d, ds, j, z, rfl, rfl, toD_dp R 9 _ _ _ rx hds, toD_dp R 9 _ w d rw' hd, toD_shaped hds, toD_shaped hd, hz, hzj, hno, q ρ H _ (.refl _ _) R mk_int⟩
        · rename_i ds hds
          unfold toD at hds
          split at hds
          · obtain ⟨_, _, z⟩ := Option.map_eq_some_iff.mp hds
            cases z
          · cases hds
        · cases e
      · cases e
    · cases e
  · cases e
theorem e_index {fo : De} {fa : Da} (ho : SE g X W n o fo) (ha : SA g X W n [e] fa) (M : MForm X o "index" e [] apos cpos := by exact ⟨rfl, rfl, rfl, rfl, rfl⟩) :
    SE g X W n (.Call (.Attribute o "index" apos) [e] [] cpos) (dM2 "tuple" kIndexT "list" kIndexL fo fa) :=
  e_meth2 PySem.F.plainAttrs_tuple PySem.F.slot_tuple_index PySem.F.type_tuple_index m_indexT pm_indexT PySem.F.plainAttrs_list PySem.F.slot_list_index PySem.F.type_list_index m_indexL pm_indexL ho ha M
theorem e_append {fo : De} {fa : Da} (ho : SE g X W n o fo) (ha : SA g X W n [e] fa) (M : MForm X o "append" e [] apos cpos := by exact ⟨rfl, rfl, rfl, rfl, rfl⟩) :
    SE g X W n (.Call (.Attribute o "append" apos) [e] [] cpos) (dM "list" kAppend fo fa) :=
  e_meth PySem.F.plainAttrs_list PySem.F.slot_list_append PySem.F.type_list_append m_append pm_append ho ha M
theorem e_extend {fo : De} {fa : Da} (ho : SE g X W n o fo) (ha : SA g X W n [e] fa) (M : MForm X o "extend" e [] apos cpos := by exact ⟨rfl, rfl, rfl, rfl, rfl⟩) :
    SE g X W n (.Call (.Attribute o "extend" apos) [e] [] cpos) (dM "list" kExtend fo fa) :=
  e_meth PySem.F.plainAttrs_list PySem.F.slot_list_extend PySem.F.type_list_extend m_extend pm_extend ho ha M
end
end Wr
set_option Elab.async false
set_option linter.all false
set_option maxRecDepth 100000
set_option maxHeartbeats 4000000
set_option autoImplicit false
namespace Wr
open PySem PySem.Spec PyProof.Rows L2
theorem rev_adjust (n : Nat) : Builtin.Slice.sliceAdjust none none (-1) (n : Int) = ((n : Int) - 1, -1) := by
  unfold Builtin.Slice.sliceAdjust
  simp
theorem rev_places (n : Nat) : Builtin.Slice.slicePlaces ((n : Int) - 1) (-1) (-1) = n := by
  unfold Builtin.Slice.slicePlaces
  have h1 : ¬ ((-1 : Int) > 0) := by omega
  simp only [h1, if_false]
  by_cases h : (-1 : Int) < (n : Int) - 1
  · rw [if_pos h]
    have : ((n : Int) - 1 - -1 - 1) / - -1 + 1 = (n : Int) := by simp
    omega
  · rw [if_neg h]; omega
theorem fm_map {α β : Type} {f : α → Option β} {g : α → β} : ∀ {l : List α}, (∀ k ∈ l, f k = some (g k)) → l.filterMap f = l.map g
  | [], _ => rfl
  | x :: l, h => by
    rw [List.filterMap_cons, h x List.mem_cons_self, List.map_cons, fm_map fun k hk => h k (List.mem_cons_of_mem _ hk)]
theorem rev_pick (xs : Array Value) : ((List.range xs.size).filterMap fun (k : Nat) => xs[(((xs.size : Int) - 1) + (k : Int) * (-1)).toNat]?).toArray = xs.toList.reverse.toArray := by
  congr 1
  apply List.ext_getElem?
  intro i
  have e : ∀ k ∈ List.range xs.size, (fun (k : Nat) => xs[(((xs.size : Int) - 1) + (k : Int) * (-1)).toNat]?) k = some ((fun k => xs.getD (xs.size - 1 - k) .none) k) := by
    intro k hk
    have hk := List.mem_range.mp hk
    have e1 : (((xs.size : Int) - 1) + (k : Int) * (-1)).toNat = xs.size - 1 - k := by omega
    have hl : xs.size - 1 - k < xs.size := by omega
    simp only [e1]
    rw [Array.getElem?_eq_getElem hl]
    simp [Array.getD, hl]
  rw [fm_map e]
  by_cases hi : i < xs.size
  · have hl : xs.size - 1 - i < xs.size := by omega
    rw [List.getElem?_map, List.getElem?_range hi, List.getElem?_reverse (by simpa using hi)]
    simp [Array.getD, hl]
  · rw [List.getElem?_map, List.getElem?_eq_none (by simp; omega), List.getElem?_eq_none (by simp; omega)]
    rfl
section
variable {prog : Program} {w : World} {A : Around} {E : Value → Shared → Prop} {s : Shared}
theorem rev_applied {sl : Addr} {vl vu vs : Value} {n : Nat} {Q : Int × Int × Nat → Shared → Prop} (hs : s.heap.IsSliceOf sl vl vu vs) (pl : IsPart vl none) (pu : IsPart vu none) (ps : IsPart vs (some (-1))) (h : Q ((n : Int) - 1, -1, n) s) :
    wpAny (model prog w) A (Builtin.Slice.sliceApplied (.ref sl) (pure (n : Int))) Q E s := by
  obtain ⟨os, hos, hcs, hds⟩ := id hs
  unfold Builtin.Slice.sliceApplied Builtin.Slice.sliceFields
  refine wpAny_bind (wpAny_bind (wpAny_field hos hds (x := vl) rfl (wpAny_bind (wpAny_field hos hds (x := vu) rfl (wpAny_bind (wpAny_field hos hds (x := vs) rfl (wpAny_pure ?_)))))))
  refine wpAny_bind (HT.slicePart_ ps ?_)
  show wpAny _ _ (if ((-1 : Int) == 0) = true then _ else _) _ _ s
  rw [if_neg (by decide)]
  refine wpAny_bind (HT.slicePart_ pl (wpAny_bind (HT.slicePart_ pu (wpAny_bind (wpAny_pure ?_)))))
  show wpAny _ _ (match Builtin.Slice.sliceAdjust none none (-1) (n : Int) with | (lo, hi) => pure (lo, (-1 : Int), Builtin.Slice.slicePlaces lo hi (-1))) _ _ s
  rw [rev_adjust n]
  show wpAny _ _ (pure ((n : Int) - 1, (-1 : Int), Builtin.Slice.slicePlaces ((n : Int) - 1) (-1) (-1))) _ _ s
  rw [rev_places]
  exact wpAny_pure h
theorem getItem_tuple_rev {t sl : Addr} {items : Array Value} {vl vu vs : Value} {Q : Value → Shared → Prop} (ht : IsTup s.heap t items) (hs : s.heap.IsSliceOf sl vl vu vs) (pl : IsPart vl none) (pu : IsPart vu none) (ps : IsPart vs (some (-1)))
    (h : Q (.ref s.heap.objs.size) { s with heap := s.heap.push (tupO items.toList.reverse) }) (hsz : items.size ≤ sizeLine) : wpAny (model prog w) A (getItem (.ref t) (.ref sl)) Q E s := by
  have htake : sizeOk (.seq items.toList.reverse.toArray) := by
    show items.toList.reverse.toArray.size ≤ sizeLine
    simpa using hsz
  obtain ⟨os, hos, hcs, hds⟩ := id hs
  have hTs : s.TypeIs (.ref sl) "slice" := ⟨os, hos, hcs⟩
  unfold getItem
  try with_reducible refine wpAny_holding ?_
  first | refine wpAny_bind (wpAny_pure ?_) | skip
  refine wpAny_bind (wpAny_sequenceKey ht.typeIs (by decide) ?_)
  refine wpAny_bind (wpAny_callSpecial?_slot (name := Str.ofString "__getitem__") ht.typeIs PyProof.Rows.slot_tuple_getitem (wpAny_call_entry PyProof.Rows.slot_tuple_getitem ht.typeIs entry_tuple_getitem ?_ (args_tuple_getitem _ _)))
  show wpAny _ _ (Builtin.Tuple.tupleItemsOf (.ref t) >>= _) _ _ s
  refine wpAny_bind (tupleItemsOf_ ht (wpAny_bind (wpAny_typeOf hTs ?_)))
  rw [if_pos (by decide)]
  refine wpAny_bind (rev_applied hs pl pu ps ?_)
  have hno : ¬ (((((items.size : Int) - 1) : Int) == 0 && (-1 : Int) == 1 && items.size == items.size) = true) := by simp
  show wpAny _ _ (if ((((items.size : Int) - 1) : Int) == 0 && (-1 : Int) == 1 && items.size == items.size) = true then _ else _) _ _ s
  rw [if_neg hno, rev_pick]
  first
    | exact wpAny_bind (m := Builtin.Tuple.tupleExact _) (wpAny_newObj_type (wpAny_pure ⟨_, rfl, wpAny_pure h⟩) htake)
    | exact wpAny_bind (m := Builtin.Tuple.tupleExact _) (wpAny_newObj_type (wpAny_bind (wpAny_pure (wpAny_pure ⟨_, rfl, wpAny_pure h⟩))) htake)
    | exact wpAny_bind (wpAny_bind (m := Builtin.Tuple.tupleExact _) (wpAny_newObj_type (wpAny_pure (wpAny_pure ⟨_, rfl, wpAny_pure h⟩)) htake))
    | exact wpAny_bind (wpAny_bind (m := Builtin.Tuple.tupleExact _) (wpAny_newObj_type (wpAny_pure ⟨_, rfl, wpAny_pure h⟩) htake))
end
section
variable {g : Gd} {X : Cx} {W : WX} {n : Nat} {pos p1 p2 p3 : Pos} {e : Expr} {k : Nat}
theorem pe_revN {te : TE} (he : PE X e te) : PE X (.Subscript e (.Slice none none (some (.UnaryOp .USub (.Constant (.int 1) k p1) p2)) p3) pos) (rRevN X.K te) := by
  constructor
  intro pins s σ H Q I h
  refine Subscript_ (thn (he.run pins s σ H _ I h) ?_)
  rintro v s1 ⟨x, H1, I1, r1, a, xs, rfl, hx, q⟩
  cases r1
  have step : PO X (some (.UnaryOp .USub (.Constant (.int 1) k p1) p2)) (tPart (tUn (rU fun i => .int (-i)) (tC (.int 1)))) := po_some (pe_un un_neg pe_int)
  refine wpAny_Slice (thn (po_none.run pins s1 σ H1 (fun o H2 => o = none ∧ H2 = H1) I1 ⟨rfl, rfl⟩) ?_)
  rintro vl s2 ⟨l, H2, I2, pl, rfl, rfl⟩
  refine thn (po_none.run pins s2 σ H2 (fun o H3 => o = none ∧ H3 = H2) I2 ⟨rfl, rfl⟩) ?_
  rintro vu s3 ⟨u, H3, I3, pu, rfl, rfl⟩
  refine thn (step.run pins s3 σ H3 (fun o H4 => o = some (-1) ∧ H4 = H3) I3 ⟨1, rfl, -1, rfl, rfl, rfl⟩) ?_
  rintro vs s4 ⟨o, H4, I4, ps, rfl, rfl⟩
  have I5 : Inv X pins σ H4 { s4 with heap := s4.heap.push { cls := .type "slice", data := .fields #[vl, vu, vs] } } := I4.kept (t' := s4.toks) fun b ob q => Heap.get?_push_of_some _ q
  obtain ⟨its, r, ht, hz⟩ := I5.tuple hx
  show wpAny (model X.prog X.w) X.A (subscriptTail e (.Slice none none (some (.UnaryOp .USub (.Constant (.int 1) k p1) p2)) p3) (.ref a) (.ref s4.heap.objs.size)) (EP X pins σ Q) X.xe { s4 with heap := s4.heap.push { cls := .type "slice", data := .fields #[vl, vu, vs] } }
  refine tail_any (ops := [.ref a, .ref s4.heap.objs.size]) ht.typeIs PyProof.Rows.slot_tuple_getitem.lookup ?_ (by with_unfolding_all rfl)
  refine getItem_tuple_rev ht (Heap.IsSliceOf.new _ vl vu vs) pl pu ps ?_ (by rw [List.size_toArray, ← r.length]; exact hz)
  exact EP.newN (s := { s4 with heap := s4.heap.push { cls := .type "slice", data := .fields #[vl, vu, vs] } }) (t' := s4.toks) I5 (fun b ob q => Heap.get?_push_of_some _ q) (Nat.le_refl _) (Heap.get?_push_size _ rfl) r.reverse (by simpa using hz) q
theorem e_rev {f : De} (he : SE g X W n e f) : SE g X W n (.Subscript e (.Slice none none (some (.UnaryOp .USub (.Constant (.int 1) k p1) p2)) p3) pos) (dRev f) := by
  intro C
  refine (PE.or (pe_revN (he C)) (pe_revL (he C))).imp ?_
  rintro σ H Q ⟨ρ, s, hp, R, L, h⟩
  rw [C.K]
  unfold dRev at h
  cases q : f s hp with
  | no => rw [q] at h; exact h.elim
  | ex c h1 => rw [q] at h; exact .inl ⟨ρ, s, hp, R, L, by rw [q]; exact h⟩
  | ok x h1 =>
    rw [q] at h
    simp only [Rs.bind] at h
    cases x with
    | tup xs =>
      refine .inl ⟨ρ, s, hp, R, L, ?_⟩
      rw [q]
      intro ρ1 H1 vx S1 R1 r1
      simp only [Rv] at r1
      obtain ⟨a, vs, rfl, ht, rv⟩ := r1
      refine ⟨a, vs, rfl, ht.sqT, fun p us hn => ?_⟩
      obtain ⟨S2, R2, r2⟩ := new_tup (us := us) R1 hn rv.reverse
      exact h _ _ _ (S1.trans S2) R2 r2
    | ref i =>
      unfold kRev at h
      simp only at h
      split at h
      · rename_i xs hx
        refine .inr ⟨ρ, s, hp, R, L, ?_⟩
        rw [q]
        intro ρ1 H1 vx S1 R1 r1
        simp only [Rv] at r1
        obtain ⟨a, ha, rfl⟩ := r1
        obtain ⟨vs, e2, rv⟩ := R1.obj i a _ ha hx
        refine ⟨a, vs, rfl, .inl (.inl e2), fun p hn => ?_⟩
        obtain ⟨S2, R2, r2⟩ := new_lst R1 hn rv.reverse
        exact h _ _ _ (S1.trans S2) R2 r2
      · exact h.elim
    | _ => exact h.elim
end
end Wr
set_option Elab.async false
set_option linter.all false
set_option maxRecDepth 100000
set_option maxHeartbeats 4000000
set_option autoImplicit false
namespace Wr
open PySem PySem.Spec PyProof.Rows L2
end Wr
set_option Elab.async false
set_option linter.all false
set_option maxRecDepth 100000
set_option maxHeartbeats 4000000
set_option autoImplicit false
namespace Wr
open PySem PySem.Spec PyProof.Rows L2
def insI (x : Int) : List Int → List Int
  | [] => [x]
  | y :: t => if decide (x ≤ y) then x :: y :: t else y :: insI x t
def sortI : List Int → List Int
  | [] => []
  | x :: t => insI x (sortI t)
def insU (x : Int) : List Int → List Int
  | [] => [x]
  | y :: t => if decide (x < y) then x :: y :: t else if decide (x = y) then y :: t else y :: insU x t
def sortU : List Int → List Int
  | [] => []
  | x :: t => insU x (sortU t)
section
variable {g : Gd}
def kSortI : K1 := fun xs h => (lstArg xs h).bind fun ys => (intsV ys).map fun ns => (.ref h.length, h ++ [.lst ((sortI ns).map Va.int)])
/-- sorted(set(xs)), ints -/
def kSortU : K1 := fun xs h => (lstArg xs h).bind fun ys => (intsV ys).bind fun ns => if decide (ns.length < 64) then some (.ref h.length, h ++ [.lst ((sortU ns).map Va.int)]) else none
end
section
variable {κ : Type} [DecidableEq κ]
def gK : List (κ × Va) → κ → Option Va
  | [], _ => none
  | (j, v) :: t, k => if decide (j = k) then some v else gK t k
def pK (kvs : List (κ × Va)) (k : κ) (v : Va) : List (κ × Va) :=
  if (kvs.any fun kv => decide (kv.1 = k)) = true then kvs.map (fun kv => if kv.1 = k then (kv.1, v) else kv) else kvs ++ [(k, v)]
variable {g : Gd} {ρ : List Addr} {H : Hp}
theorem Rkv.get : ∀ {kvs : List (κ × Va)} {ws : List (κ × V)} {k : κ} {v : Va}, Rkv g ρ H kvs ws → gK kvs k = some v → ∃ x, valV ws k = some x ∧ Rv g ρ H v x
  | [], _, _, _, _, e => by cases e
  | (j, u) :: t, _, k, v, h, e => by
    obtain ⟨x, r, rfl, h1, h2⟩ := h
    unfold gK at e
    by_cases hj : j = k
    · rw [if_pos (decide_eq_true hj)] at e
      cases e
      exact ⟨x, valV_pos hj, h1⟩
    · rw [if_neg (fun z => hj (of_decide_eq_true z))] at e
      rw [valV_neg hj]
      exact Rkv.get h2 e
theorem Rkv.keys : ∀ {kvs : List (κ × Va)} {ws : List (κ × V)}, Rkv g ρ H kvs ws → kvs.map (·.1) = ws.map (·.1)
  | [], _, h => by cases h; rfl
  | (j, u) :: t, _, h => by
    obtain ⟨x, r, rfl, h1, h2⟩ := h
    simp [Rkv.keys h2]
end
theorem Rkv.length {κ : Type} {g : Gd} {ρ : List Addr} {H : Hp} : ∀ {kvs : List (κ × Va)} {ws : List (κ × V)}, Rkv g ρ H kvs ws → kvs.length = ws.length
  | [], _, h => by cases h; rfl
  | (j, u) :: t, _, h => by
    obtain ⟨x, r, rfl, h1, h2⟩ := h
    simp [Rkv.length h2]
section
variable {κ : Type} [DecidableEq κ] {g : Gd} {ρ : List Addr} {H : Hp}
theorem Rkv.any : ∀ {kvs : List (κ × Va)} {ws : List (κ × V)} (k : κ), Rkv g ρ H kvs ws → (kvs.any fun kv => decide (kv.1 = k)) = (ws.any fun kv => decide (kv.1 = k))
  | [], _, _, h => by cases h; rfl
  | (j, u) :: t, _, k, h => by
    obtain ⟨x, r, rfl, h1, h2⟩ := h
    simp only [List.any_cons, Rkv.any k h2]
theorem Rkv.mapped {v : Va} {x : V} (rv : Rv g ρ H v x) : ∀ {kvs : List (κ × Va)} {ws : List (κ × V)} (k : κ), Rkv g ρ H kvs ws → Rkv g ρ H (kvs.map fun kv => if kv.1 = k then (kv.1, v) else kv) (ws.map fun kv => if kv.1 = k then (kv.1, x) else kv)
  | [], _, _, h => by cases h; rfl
  | (j, u) :: t, _, k, h => by
    obtain ⟨y, r, rfl, h1, h2⟩ := h
    simp only [List.map_cons]
    by_cases hj : j = k
    · rw [if_pos hj, if_pos hj]
      exact ⟨x, _, rfl, rv, Rkv.mapped rv k h2⟩
    · rw [if_neg hj, if_neg hj]
      exact ⟨y, _, rfl, h1, Rkv.mapped rv k h2⟩
theorem Rkv.snoc {v : Va} {x : V} (rv : Rv g ρ H v x) : ∀ {kvs : List (κ × Va)} {ws : List (κ × V)} (k : κ), Rkv g ρ H kvs ws → Rkv g ρ H (kvs ++ [(k, v)]) (ws ++ [(k, x)])
  | [], _, k, h => by cases h; exact ⟨x, [], rfl, rv, rfl⟩
  | (j, u) :: t, _, k, h => by
    obtain ⟨y, r, rfl, h1, h2⟩ := h
    exact ⟨y, _, rfl, h1, Rkv.snoc rv k h2⟩
theorem Rkv.put {v : Va} {x : V} (rv : Rv g ρ H v x) {kvs : List (κ × Va)} {ws : List (κ × V)} (k : κ) (h : Rkv g ρ H kvs ws) : Rkv g ρ H (pK kvs k v) (putK ws k x) := by
  unfold pK putK
  rw [Rkv.any k h]
  split
  · exact Rkv.mapped rv k h
  · exact Rkv.snoc rv k h
end
section
variable {g : Gd} {ρ ρ' : List Addr} {H H' : Hp} {hp : Hs}
theorem Tst.updG {D : Addr} {o : HO} (h : ∀ x y, H D ≠ some (.frz x y)) : Tst g H (L2.upd H D o) := by
  refine ⟨fun a vs q => ?_, fun q => ?_, fun c v ⟨a, oe, e, q, r⟩ => ⟨a, oe, e, q.imp (fun q => by rw [L2.upd_ne (show a ≠ D from fun z => h oe exF (by rw [← z]; exact q))]; exact q) id, r⟩⟩
  · rcases q with ⟨u, q, d⟩ | q
    · exact .inl ⟨u, by rw [L2.upd_ne (show a ≠ D from fun z => h u (.tup vs) (by rw [← z]; exact q))]; exact q, d⟩
    · exact .inr q
  · rcases q with ⟨u, q⟩ | q
    · exact .inl ⟨u, by rw [L2.upd_ne (show g.sa ≠ D from fun z => h u (.lst (g.ns.map V.int)) (by rw [← z]; exact q))]; exact q⟩
    · exact .inr q
theorem Tst.self : Tst g H H := ⟨fun _ _ q => q, fun q => q, fun _ _ q => q⟩
theorem Ro.tst (T : Tst g H H') (hr : ρ <+: ρ') {a : Addr} {o : Ob} (e : H' a = H a) (q : Ro g ρ H a o) : Ro g ρ' H' a o := by
  cases o with
  | lst xs => obtain ⟨vs, e2, r⟩ := q; exact ⟨vs, e.trans e2, Rvs.tst T hr _ _ r⟩
  | dK xs => obtain ⟨vs, e2, r⟩ := q; exact ⟨vs, e.trans e2, Rkv.tst T hr _ _ r⟩
  | dT xs => obtain ⟨vs, e2, r⟩ := q; exact ⟨vs, e2.keep (fun _ z => e.trans z) T.1, Rkv.tst T hr _ _ r⟩
  | dU xs => obtain ⟨vs, e2, r⟩ := q; exact ⟨vs, e2.keep (fun _ z => e.trans z) T.1, Rkv.tst T hr _ _ r⟩
  | ins c xs => obtain ⟨dx, vs, e2, r⟩ := q; exact ⟨dx, vs, e.trans e2, Rkv.tst T hr _ _ r⟩
  | dF xs => obtain ⟨dx, vs, e2, r⟩ := q; exact ⟨dx, vs, e.trans e2, Rkv.tst T hr _ _ r⟩
theorem Rh.takeG (R : Rh g ρ H hp) {D : Addr} {o : Ob} (hD : D ∉ ρ) (q : Ro g ρ H D o) : Rh g (ρ ++ [D]) H (hp ++ [o]) := by
  have pr : ρ <+: ρ ++ [D] := List.prefix_append _ _
  refine ⟨by simp [R.len], ?_, R.tab, fun i a x h1 h2 => ?_⟩
  · rw [List.nodup_append]
    refine ⟨R.nd, by simp, fun a ha b hb e => ?_⟩
    obtain rfl := List.mem_singleton.mp hb
    subst e; exact hD ha
  · by_cases hi : i < ρ.length
    · rw [List.getElem?_append_left hi] at h1
      rw [List.getElem?_append_left (by rw [← R.len]; exact hi)] at h2
      exact Ro.tst Tst.self pr rfl (R.obj i a x h1 h2)
    · have hi2 : i = ρ.length := by
        have := (List.getElem?_eq_some_iff.mp h1).1
        simp at this; omega
      subst hi2
      simp at h1
      subst h1
      rw [R.len] at h2
      simp at h2
      subst h2
      exact Ro.tst Tst.self pr rfl q
end
def keyOf (x : Va) : Option Key := match x with
  | .int i => some (.inl i)
  | .str x => some (.inr x)
  | _ => none
theorem keyOf_rv {g : Gd} {ρ : List Addr} {H : Hp} {x : Va} {v : V} {k : Key} (r : Rv g ρ H x v) (e : keyOf x = some k) : v = kV k := by
  unfold keyOf at e
  split at e
  · cases e; simp only [Rv] at r; subst r; rfl
  · cases e; simp only [Rv] at r; subst r; rfl
  · cases e
def kDg : K2 := fun x y h => match x with
  | .ref r => match h[r]? with
    | some (.dK kvs) => (keyOf y).bind fun k => (gK kvs k).map fun v => (v, h)
    | some (.dF kvs) => (keyOf y).bind fun k => (gK kvs k).map fun v => (v, h)
    | _ => none
  | _ => none
def rDg : R2 := fun x y H Q => ∃ a v, x = .ref a ∧ DGet H a y (some v) ∧ Q v H
def kIxU : K2 := fun x y h => match kIx x y h with
  | some r => some r
  | none => kDg x y h
section
variable {g : Gd} {X : Cx} {W : WX} {n : Nat} {pos : Pos}
theorem p_dg : P2 g rDg kDg := by
  intro ρ H hp x y vx vy v h' Q R rx ry e q
  unfold kDg at e
  split at e
  · rename_i r
    simp only [Rv] at rx
    obtain ⟨a, ha, rfl⟩ := rx
    split at e
    · rename_i kvs hx
      obtain ⟨k, hk, e⟩ := Option.bind_eq_some_iff.mp e
      obtain ⟨u, hu, e⟩ := Option.map_eq_some_iff.mp e
      cases e
      obtain ⟨ws, e2, rk⟩ := R.obj r a _ ha hx
      obtain ⟨z, hz, rz⟩ := rk.get hu
      refine ⟨a, z, rfl, ?_, q ρ H _ (.refl _ _) R rz⟩
      rw [keyOf_rv ry hk, ← hz]
      exact DGet.k e2
    · rename_i kvs hx
      obtain ⟨k, hk, e⟩ := Option.bind_eq_some_iff.mp e
      obtain ⟨u, hu, e⟩ := Option.map_eq_some_iff.mp e
      cases e
      obtain ⟨o, ws, e2, rk⟩ := R.obj r a _ ha hx
      obtain ⟨z, hz, rz⟩ := rk.get hu
      refine ⟨a, z, rfl, ?_, q ρ H _ (.refl _ _) R rz⟩
      rw [keyOf_rv ry hk, ← hz]
      exact .inl ⟨ws, k, .inr ⟨o, e2⟩, rfl, rfl⟩
    · cases e
  · cases e
theorem dOp_or {k1 k2 k : K2} (hk : ∀ x y h, k x y h = k1 x y h ∨ k x y h = k2 x y h) (fa fb : De) (s : Sg) (h : Hs) : dOp k fa fb s h = dOp k1 fa fb s h ∨ dOp k fa fb s h = dOp k2 fa fb s h := by
  unfold dOp
  cases fa s h with
  | no => exact .inl rfl
  | ex c h1 => exact .inl rfl
  | ok x h1 =>
    simp only [Rs.bind]
    cases fb s h1 with
    | no => exact .inl rfl
    | ex c h1 => exact .inl rfl
    | ok y h2 =>
      simp only
      rcases hk x y h2 with e | e
      · rw [e]; exact .inl rfl
      · rw [e]; exact .inr rfl
theorem kIxU_or (x y : Va) (h : Hs) : kIxU x y h = kIx x y h ∨ kIxU x y h = kDg x y h := by
  unfold kIxU
  cases kIx x y h with
  | none => exact .inr rfl
  | some r => exact .inl rfl
theorem e_ixU {a b : Expr} {fa fb : De} (ha : SE g X W n a fa) (hb : SE g X W n b fb) (hs : PlainIx b := by exact fun _ _ => rfl) : SE g X W n (.Subscript a b pos) (dOp kIxU fa fb) := by
  intro C
  refine (PE.or (e_ix (pos := pos) ha hb hs C) (pe_dget (pos := pos) (by have := C.units; omega) (ha C) (hb C) hs)).imp ?_
  rintro σ H Q ⟨ρ, s, hp, R, L, h⟩
  rcases dOp_or kIxU_or fa fb s hp with e | e
  · rw [e] at h
    exact .inl ⟨ρ, s, hp, R, L, h⟩
  · rw [e] at h
    exact .inr (op_imp p_dg ⟨ρ, s, hp, R, L, h⟩)
def kPutL (o i v : Va) (h : Hs) : Option Hs := match o, i with
  | .ref r, .int k => match h[r]? with
    | some (.lst xs) => (ixN xs.length k).map fun j => h.set r (.lst (xs.set j v))
    | _ => none
  | _, _ => none
def kPutD (o i v : Va) (h : Hs) : Option Hs := match o with
  | .ref r => match h[r]? with
    | some (.dK kvs) => if decide (kvs.length < 1000) then (keyOf i).map fun k => h.set r (.dK (pK kvs k v)) else none
    | _ => none
  | _ => none
def dPutK (k : Va → Va → Va → Hs → Option Hs) (fo fi fv : De) : Ds := fun s h => (fv s h).bindS s fun v h1 => (fo s h1).bindS s fun o h2 => (fi s h2).bindS s fun i h3 => match k o i v h3 with
  | some h4 => .nx s h4
  | none => .no
def kPut (o i v : Va) (h : Hs) : Option Hs := match kPutL o i v h with
  | some r => some r
  | none => kPutD o i v h
theorem dPut_or (fo fi fv : De) (s : Sg) (h : Hs) : dPutK kPut fo fi fv s h = dPutK kPutL fo fi fv s h ∨ dPutK kPut fo fi fv s h = dPutK kPutD fo fi fv s h := by
  unfold dPutK
  cases fv s h with
  | no => exact .inl rfl
  | ex c h1 => exact .inl rfl
  | ok v h1 =>
    simp only [Rs.bindS]
    cases fo s h1 with
    | no => exact .inl rfl
    | ex c h1 => exact .inl rfl
    | ok o h2 =>
      simp only
      cases fi s h2 with
      | no => exact .inl rfl
      | ex c h1 => exact .inl rfl
      | ok i h3 =>
        simp only
        unfold kPut
        cases kPutL o i v h3 with
        | none => exact .inr rfl
        | some r => exact .inl rfl
theorem _root_.L2.PS.or {X : Cx} {e : Stmt} {t t' : TS} (h : PS X e t) (h' : PS X e t') : PS X e (fun D σ H => t D σ H ∨ t' D σ H) := ⟨fun pins s σ H D I w => by
  rcases w with w | w
  · exact h.run pins s σ H D I w
  · exact h'.run pins s σ H D I w⟩
theorem s_put {o i e : Expr} {pos' : Pos} {fo fi fv : De} (ho : SE g X W n o fo) (hi : SE g X W n i fi) (hv : SE g X W n e fv)
    (hs : swapsWith e (some (.Subscript o i pos')) pos.line X.env = pure false := by rfl) (hs2 : swapsWithSole [.Subscript o i pos'] e pos.line X.env = pure false := by rfl) (hw : swappedStores [.Subscript o i pos'] e X.env = pure none := by rfl)
    (h1 : (assignEach [.Subscript o i pos'] X.env).map (·.2) = [assign (.Subscript o i pos') X.env] := by rfl)
    (ha : ∀ v, assign (.Subscript o i pos') X.env v = (do
      let ov ← holding [v] (eval o X.env)
      let iv ← holding [v, ov] (eval i X.env)
      standAt pos'
      holding [v, ov, iv] (setItem ov iv v)
      release [v, ov, iv] []) := by intro _; rfl) : SS g X W n (.Assign [.Subscript o i pos'] e pos) (dPutK kPut fo fi fv) := by
  intro C
  refine (PS.or (ps_asg (pos := pos) (hv C) (pg_sub (ho C) (hi C) set_list ha) hs2 hw h1) (ps_dput (pos := pos) (pos' := pos') (by have := C.units; omega) (ho C) (hi C) (hv C) hs)).imp ?_
  rintro D σ H ⟨ρ, s, hp, R, L, h⟩
  rcases dPut_or fo fi fv s hp with q | q
  · rw [q] at h
    refine .inl (bS h R L fun v h1 ρ1 H1 x S1 R1 r1 L1 p1 => bS p1 R1 L1 fun o h2 ρ2 H2 y S2 R2 r2 L2 p2 => bS p2 R2 L2 fun i h3 ρ3 H3 z S3 R3 r3 L3 p3 => ?_)
    split at p3
    · rename_i h4 hk
      unfold kPutL at hk
      split at hk
      · rename_i r k
        split at hk
        · rename_i xs hx
          obtain ⟨j, hj, rfl⟩ := Option.map_eq_some_iff.mp hk
          have r2' := Rv.step R2 S3 _ _ r2
          have r1' := Rv.step R2 S3 _ _ (Rv.step R1 S2 _ _ r1)
          simp only [Rv] at r2'
          obtain ⟨a, ha, rfl⟩ := r2'
          obtain ⟨vs, e2, rv⟩ := R3.obj r a _ ha hx
          obtain ⟨S4, R4⟩ := R3.put (u := .lst (vs.set j x)) (o := .lst (xs.set j v)) ha (fun _ _ z => by rw [e2] at z; cases z) fun S => ⟨_, upd_same, Rvs.step R3 S _ _ (rv.set j r1')⟩
          exact ⟨a, vs, k, j, rfl, rv_int r3, e2, by rw [← rv.length]; exact hj, p3 ρ3 _ σ S4 R4 (L3.step R3 S4)⟩
        · cases hk
      · cases hk
    · exact p3.elim
  · rw [q] at h
    refine .inr (bS h R L fun v h1 ρ1 H1 x S1 R1 r1 L1 p1 => bS p1 R1 L1 fun o h2 ρ2 H2 y S2 R2 r2 L2 p2 => bS p2 R2 L2 fun i h3 ρ3 H3 z S3 R3 r3 L3 p3 => ?_)
    split at p3
    · rename_i h4 hk
      unfold kPutD at hk
      split at hk
      · rename_i r
        split at hk
        · rename_i kvs hx
          by_cases hl : kvs.length < 1000
          · rw [if_pos (decide_eq_true hl)] at hk
            obtain ⟨k, hj, rfl⟩ := Option.map_eq_some_iff.mp hk
            have r2' := Rv.step R2 S3 _ _ r2
            have r1' := Rv.step R2 S3 _ _ (Rv.step R1 S2 _ _ r1)
            simp only [Rv] at r2'
            obtain ⟨a, ha, rfl⟩ := r2'
            obtain ⟨ws, e2, rk⟩ := R3.obj r a _ ha hx
            obtain ⟨S4, R4⟩ := R3.put (u := .dK (putK ws k x)) (o := .dK (pK kvs k v)) ha (fun _ _ z => by rw [e2] at z; cases z) fun S => ⟨_, upd_same, Rkv.step R3 S _ _ (rk.put r1' k)⟩
            refine ⟨a, _, rfl, ?_, p3 ρ3 _ σ S4 R4 (L3.step R3 S4)⟩
            rw [keyOf_rv r3 hj]
            exact DPut.k e2 (by rw [← rk.length, sizeLine_eq]; omega)
          · rw [if_neg (fun z => hl (of_decide_eq_true z))] at hk; cases hk
        · cases hk
      · cases hk
    · exact p3.elim
def dNewD : De := fun _ h => .ok (.ref h.length) (h ++ [.dK []])
end
end Wr
set_option Elab.async false
set_option linter.all false
set_option maxRecDepth 100000
set_option maxHeartbeats 4000000
set_option autoImplicit false
namespace Wr
open PySem PySem.Spec PyProof.Rows L2
def pairsD : List (De × De) → Sg → Hs → Rs (List (Va × Va))
  | [], _, h => .ok [] h
  | (a, b) :: t, s, h => (a s h).bind fun x h1 => (b s h1).bind fun y h2 => (pairsD t s h2).bind fun ps h3 => .ok ((x, y) :: ps) h3
def keysOf : List (Va × Va) → Option (List (Key × Va))
  | [] => some []
  | (x, y) :: t => match keyOf x with
    | some k => match keysOf t with
      | some r => some ((k, y) :: r)
      | none => none
    | none => none
def mergeD (kvs : List (Key × Va)) : List (Key × Va) → List (Key × Va)
  | [] => kvs
  | (k, v) :: t => mergeD (pK kvs k v) t
def dDisp (fs : List (De × De)) : De := fun s h => (pairsD fs s h).bind fun ps h1 => match keysOf ps with
  | some kvs => if decide (kvs.length ≤ 15) then .ok (.ref h1.length) (h1 ++ [.dK (mergeD [] kvs)]) else .no
  | none => .no
section
variable {g : Gd} {ρ : List Addr} {H : Hp}
def Rp2 (g : Gd) (ρ : List Addr) (H : Hp) : List (Va × Va) → List (V × V) → Prop
  | [], vs => vs = []
  | (a, b) :: t, vs => ∃ x y r, vs = (x, y) :: r ∧ Rv g ρ H a x ∧ Rv g ρ H b y ∧ Rp2 g ρ H t r
theorem keysOf_rv : ∀ {ps : List (Va × Va)} {vs : List (V × V)} {kvs : List (Key × Va)}, Rp2 g ρ H ps vs → keysOf ps = some kvs → ∃ ws, vs = ws.map (fun kv => (kV kv.1, kv.2)) ∧ Rkv g ρ H kvs ws
  | [], _, _, h, e => by cases h; cases e; exact ⟨[], rfl, rfl⟩
  | (a, b) :: t, _, _, h, e => by
    obtain ⟨x, y, r, rfl, h1, h2, h3⟩ := h
    unfold keysOf at e
    split at e
    · rename_i k hk
      split at e
      · rename_i kt ht
        cases e
        obtain ⟨ws, rfl, q⟩ := keysOf_rv h3 ht
        exact ⟨(k, y) :: ws, by rw [List.map_cons, keyOf_rv h1 hk], y, ws, rfl, h2, q⟩
      · cases e
    · cases e
theorem merge_rv : ∀ {more kvs : List (Key × Va)} {ws vs : List (Key × V)}, Rkv g ρ H kvs vs → Rkv g ρ H more ws → Rkv g ρ H (mergeD kvs more) (mergeK vs ws)
  | [], _, _, _, h, h' => by cases h'; exact h
  | (k, v) :: t, kvs, _, vs, h, h' => by
    obtain ⟨x, r, rfl, h1, h2⟩ := h'
    exact merge_rv (kvs := pK kvs k v) (vs := putK vs k x) (Rkv.put h1 k h) h2
end
section
variable {g : Gd} {X : Cx} {W : WX} {n : Nat} {pos : Pos}
def SPs (g : Gd) (X : Cx) (W : WX) (n : Nat) (pos : Pos) (ks : List (Option Expr)) (vs : List Expr) (fs : List (De × De)) : Prop := Cz g X W n → PPs X pos ks vs (fs.map fun p => (tE g W p.1, tE g W p.2))
theorem sp_nil : SPs g X W n pos [] [] [] := fun _ => pps_nil
theorem sp_cons {k v : Expr} {ks : List (Option Expr)} {vs : List Expr} {a b : De} {fs : List (De × De)} (hk : SE g X W n k a) (hv : SE g X W n v b) (hr : SPs g X W n pos ks vs fs) : SPs g X W n pos (some k :: ks) (v :: vs) ((a, b) :: fs) :=
  fun C => pps_cons (hk C) (hv C) (hr C)
theorem pairs_ok {σ : L2.St} {s : Sg} {p : Addr} : ∀ (fs : List (De × De)) (ρ : List Addr) (H : Hp) (hp : Hs) (Q : List (V × V) → Hp → Prop), Rh g ρ H hp → Rsl g ρ H s σ →
    (match pairsD fs s hp with
      | .ok ps h => ∀ ρ' H' vs, Sp1 ρ H ρ' H' → Rh g ρ' H' h → Rp2 g ρ' H' ps vs → Q vs H'
      | .ex c h => ∀ ρ' H', Sp1 ρ H ρ' H' → Rh g ρ' H' h → W (.ref (g.G (c % 100))) (dty c) σ H'
      | .no => False) → tPairs (fs.map fun p => (tE g W p.1, tE g W p.2)) σ H Q
  | [], ρ, H, hp, Q, R, L, h => h ρ H [] (.refl _ _) R rfl
  | (a, b) :: t, ρ, H, hp, Q, R, L, h => by
    unfold pairsD at h
    refine ⟨ρ, s, hp, R, L, ?_⟩
    show PoE g ρ H (a s hp) _ _
    cases q : a s hp with
    | no => rw [q] at h; exact h
    | ex c h1 => rw [q] at h; exact h
    | ok x h1 =>
      rw [q] at h
      simp only [Rs.bind] at h
      intro ρ1 H1 vx S1 R1 r1
      refine ⟨ρ1, s, h1, R1, L.step R S1, ?_⟩
      show PoE g ρ1 H1 (b s h1) _ _
      cases q2 : b s h1 with
      | no => rw [q2] at h; exact h
      | ex c h2 => rw [q2] at h; exact fun ρ2 H2 S2 R2 => h ρ2 H2 (S1.trans S2) R2
      | ok y h2 =>
        rw [q2] at h
        simp only at h
        intro ρ2 H2 vy S2 R2 r2
        refine pairs_ok (p := p) t ρ2 H2 h2 _ R2 ((L.step R S1).step R1 S2) ?_
        cases q3 : pairsD t s h2 with
        | no => rw [q3] at h; exact h
        | ex c h3 => rw [q3] at h; exact fun ρ3 H3 S3 R3 => h ρ3 H3 ((S1.trans S2).trans S3) R3
        | ok ps h3 =>
          rw [q3] at h
          simp only at h
          intro ρ3 H3 vs S3 R3 r3
          exact h ρ3 H3 ((vx, vy) :: vs) ((S1.trans S2).trans S3) R3 ⟨vx, vy, vs, rfl, Rv.step R1 (S2.trans S3) _ _ r1, Rv.step R2 S3 _ _ r2, r3⟩
theorem e_disp {ks : List (Option Expr)} {vs : List Expr} {fs : List (De × De)} (h : SPs g X W n pos ks vs fs) (hall : ks.all (·.isSome) = true := by rfl) (hl : ks.length = vs.length := by rfl) (h0 : ks ≠ [] := by exact List.cons_ne_nil _ _)
    (h15 : ks.length ≤ 15 := by decide) : SE g X W n (.Dict ks vs pos) (dDisp fs) := by
  intro C
  refine (pe_disp (h C) hall hl h0 h15).imp ?_
  rintro σ H Q ⟨ρ, s, hp, R, L, h⟩ p hn
  obtain ⟨S1, R1⟩ := R.laid (u := .dK []) hn
  have hpn : p ∉ ρ := fun z => by have := R.mut z; rw [hn] at this; exact this
  refine pairs_ok (p := p) fs ρ _ hp _ R1 (L.step R S1) ?_
  unfold dDisp at h
  cases q : pairsD fs s hp with
  | no => rw [q] at h; exact h
  | ex c h2 => rw [q] at h; exact fun ρ2 H2 S2 R2 => h ρ2 H2 (S1.trans S2) R2
  | ok ps h2 =>
    rw [q] at h
    simp only [Rs.bind] at h
    intro ρ2 H2 vs S2 R2 r2
    have e2 : H2 p = some (.dK []) := S2.keep p _ upd_same hpn (fun _ z => nomatch z)
    have np2 : p ∉ ρ2 := fun z => by
      rcases S2.new p z with w | w
      · exact hpn w
      · exact w _ upd_same (fun _ z => nomatch z)
    cases hk : keysOf ps with
    | none => rw [hk] at h; exact h.elim
    | some kvs =>
      rw [hk] at h
      simp only at h
      by_cases hl : kvs.length ≤ 15
      · rw [if_pos (decide_eq_true hl)] at h
        obtain ⟨ws, rfl, rk⟩ := keysOf_rv r2 hk
        refine ⟨e2, ws, rfl, by rw [← rk.length]; exact hl, ?_⟩
        have T : Tst g H2 (upd H2 p (.dK (mergeK [] ws))) := Tst.updG fun _ _ z => by rw [e2] at z; cases z
        have R3 := R2.other T np2 (fun u z => by rw [e2] at z; cases z; trivial)
        have R4 := R3.takeG (o := .dK (mergeD [] kvs)) np2 ⟨_, upd_same, Rkv.tst T (List.prefix_refl _) _ _ (merge_rv (kvs := []) (vs := []) rfl rk)⟩
        have S12 := S1.trans S2
        have hne : ∀ b o, H b = some o → b ≠ p := fun b o hb z => by rw [z, hn] at hb; cases hb
        refine h (ρ2 ++ [p]) _ (.ref p) ⟨S12.pre.trans (List.prefix_append _ _), fun b hb => ?_, fun b o hb hnb nt => by rw [upd_ne (hne b o hb)]; exact S12.keep b o hb hnb nt, fun b o u hb => by rw [upd_ne (hne b _ hb)]; exact S12.frz b o u hb⟩ R4 ?_
        · rcases List.mem_append.mp hb with z | z
          · exact S12.new b z
          · rw [List.mem_singleton.mp z]; exact .inr (new_none hn)
        · simp only [Rv]
          exact ⟨p, by rw [← R2.len]; simp, rfl⟩
      · rw [if_neg (fun z => hl (of_decide_eq_true z))] at h; exact h.elim
def pairsOf : List Va → Option (List (Key × Va))
  | [] => some []
  | x :: t => match x with
    | .tup [a, b] => match keyOf a with
      | some k => match pairsOf t with
        | some r => some ((k, b) :: r)
        | none => none
      | none => none
    | _ => none
def kDict : K1 := fun xs h => (lstArg xs h).bind fun ys => (pairsOf ys).map fun kvs => (.ref h.length, h ++ [.dK (mergeD [] kvs)])
theorem pairsOf_rv {ρ : List Addr} {H : Hp} : ∀ {xs : List Va} {vs : List V} {kvs : List (Key × Va)}, Rvs g ρ H xs vs → pairsOf xs = some kvs → ∃ (ps : List Addr) (ws : List (Key × V)), vs = ps.map V.ref ∧ Paired (fun p kv => SqT g.K H p [kV kv.1, kv.2]) ps ws ∧ Rkv g ρ H kvs ws
  | [], _, _, h, e => by simp only [Rvs] at h; subst h; cases e; exact ⟨[], [], rfl, .nil, rfl⟩
  | x :: t, _, _, h, e => by
    simp only [Rvs] at h
    obtain ⟨v, r, rfl, h1, h2⟩ := h
    unfold pairsOf at e
    split at e
    · rename_i a b
      split at e
      · rename_i k hk
        split at e
        · rename_i kt ht
          cases e
          obtain ⟨ps, ws, rfl, hp, rk⟩ := pairsOf_rv h2 ht
          simp only [Rv] at h1
          obtain ⟨q, us, rfl, ht2, ru⟩ := h1
          obtain ⟨y, z, rfl, ry, rz⟩ := ru.inv2
          refine ⟨q :: ps, (k, z) :: ws, rfl, .cons ?_ hp, z, ws, rfl, rz, rk⟩
          rw [← keyOf_rv ry hk]
          exact ht2.sqT
        · cases e
      · cases e
    · cases e
abbrev rDictP (K : PySem.W.Frag) : List V → Hp → VK → Prop := fun xs H Q => ∃ (a : Addr) (ps : List Addr) (kvs : List (Key × V)), xs = [.ref a] ∧ SqL K H a (ps.map V.ref) ∧ Paired (fun p kv => SqT K H p [kV kv.1, kv.2]) ps kvs ∧
    ∀ p, H p = none → Q (.ref p) (upd H p (.dK (mergeK [] kvs)))
theorem c_dict : CallC g (.type "dict") (rDictP g.K) := fun X hK hc _ => hK ▸ call_dictP hc
theorem p_dict : PC1 g (rDictP g.K) kDict := by
  intro ρ H hp xs vs v h' Q R r e q
  obtain ⟨ys, h1, e⟩ := Option.bind_eq_some_iff.mp e
  obtain ⟨kvs, h2, e⟩ := Option.map_eq_some_iff.mp e
  cases e
  obtain ⟨a, us, rfl, e2, rv⟩ := lstArg_inv R r h1
  obtain ⟨ps, ws, rfl, hp2, rk⟩ := pairsOf_rv rv h2
  refine ⟨a, ps, ws, rfl, .inl (.inl e2), hp2, fun p hn => ?_⟩
  obtain ⟨S4, R4⟩ := R.new (u := .dK (mergeK [] ws)) (o := .dK (mergeD [] kvs)) hn fun S => ⟨_, upd_same, Rkv.step R S _ _ (merge_rv (kvs := []) (vs := []) rfl rk)⟩
  exact q _ _ _ S4 R4 (by simp only [Rv]; exact ⟨p, by rw [← R.len]; simp, rfl⟩)
def keysIt (v : Va) (h : Hs) : Rs It' := match v with
  | .ref r => match h[r]? with
    | some (.dF kvs) => .ok (.tup (kvs.map fun kv => kVa kv.1)) h
    | _ => .no
  | _ => .no
def dKeys (f : De) : Di := fun s h => (f s h).bind keysIt
/-- the dict that the name i holds is locked meanwhile -/
def dLock (i : Nat) (f : De) : De := fun s h => match s[i]? with
  | some (some (.ref r)) => match h[r]? with
    | some (.dK kvs) => match f s (h.set r (.dF kvs)) with
      | .ok v h3 => match h3[r]? with
        | some (.dF kvs') => .ok v (h3.set r (.dK kvs'))
        | _ => .no
      | _ => .no
    | _ => .no
  | _ => .no
end
end Wr
set_option Elab.async false
set_option linter.all false
set_option maxRecDepth 100000
set_option maxHeartbeats 4000000
set_option autoImplicit false
namespace Wr
open PySem PySem.Spec PyProof.Rows L2
section
variable {g : Gd} {X : Cx} {W : WX} {n : Nat} {pos : Pos}
theorem ScrAt.sq {H : Hp} (h : ScrAt g H) : SqL g.K H g.sa (g.ns.map V.int) := by
  rcases h with ⟨o, h⟩ | h
  · exact .inl (.inr ⟨o, h⟩)
  · exact .inr h
def kLenS (ns : List Int) : K1 := fun xs h => match xs with
  | [.scr] => some (.int ns.length, h)
  | _ => none
theorem p_lenS : PC1 g (rLenA g.K) (kLenS g.ns) := by
  intro ρ H hp xs vs v h' Q R r e q
  unfold kLenS at e
  split at e
  · cases e
    obtain ⟨w, rfl, rw'⟩ := r.inv1
    simp only [Rv] at rw'
    obtain ⟨rfl, hs⟩ := rw'
    exact .inl ⟨g.sa, _, rfl, .inl hs.sq, by rw [List.length_map]; exact q ρ H _ (.refl _ _) R mk_int⟩
  · cases e
def kIxS (ns : List Int) : K2 := fun x y h => match x, y with
  | .scr, .int i => (L2.atI ns i).map fun v => (.int v, h)
  | _, _ => none
theorem atI_map {ns : List Int} {i v : Int} (e : L2.atI ns i = some v) : L2.atI (ns.map V.int) i = some (.int v) := by
  unfold L2.atI at e ⊢
  rw [List.length_map]
  cases hj : ixN ns.length i with
  | none => rw [hj] at e; cases e
  | some j =>
    rw [hj] at e
    simp only [Option.bind_some] at e ⊢
    rw [List.getElem?_map, e]; rfl
theorem p_ixS : P2 g (rIx g.K) (kIxS g.ns) := by
  intro ρ H hp x y vx vy v h' Q R rx ry e q
  unfold kIxS at e
  split at e
  · rename_i i
    obtain ⟨w, hw, e⟩ := Option.map_eq_some_iff.mp e
    cases e
    simp only [Rv] at rx
    obtain ⟨rfl, hs⟩ := rx
    exact .inl ⟨g.sa, _, i, _, rfl, rv_int ry, hs.sq, atI_map hw, q ρ H _ (.refl _ _) R mk_int⟩
  · cases e
theorem e_ixS {a b : Expr} {fa fb : De} (ha : SE g X W n a fa) (hb : SE g X W n b fb) (hs : PlainIx b := by exact fun _ _ => rfl) : SE g X W n (.Subscript a b pos) (dOp (kIxS g.ns) fa fb) :=
  fun C => (pe_ix ix_seq (ha C) (hb C) hs).imp fun _ _ _ h => C.K ▸ op_imp p_ixS h
theorem dp_ints {K : PySem.W.Frag} {H : Hp} : ∀ ns : List Int, DpAll K H (ns.map V.int) (ns.map PyData.int)
  | [] => .nil
  | x :: t => .cons (.int x) (dp_ints t)
theorem lay_ints : ∀ ns : List Int, PyData.canLayAll0 (ns.map PyData.int) = true ∧ PyData.depthAll (ns.map PyData.int) = 0
  | [] => by simp [PyData.canLayAll0, PyData.depthAll]
  | x :: t => by
    obtain ⟨h1, h2⟩ := lay_ints t
    simp only [List.map_cons, PyData.canLayAll0, PyData.depthAll, PyData.canLay0, PyData.depth, h1, h2]
    simp
theorem shaped_ints (ns : List Int) : SeqAt.shaped (.list (ns.map PyData.int)) = true := by
  obtain ⟨h1, h2⟩ := lay_ints ns
  unfold SeqAt.shaped
  simp only [PyData.canLay0, PyData.depth, h1, h2]
  simp
def eqNil (ns : List Int) : Bool := match ns with
  | [] => true
  | _ :: _ => false
theorem eqv_nil (ns : List Int) : PyData.eqv (.list (ns.map PyData.int)) (.list []) = eqNil ns := by
  cases ns with
  | nil => simp [PyData.eqv, PyData.eqvAll, eqNil]
  | cons x t => simp [PyData.eqv, PyData.eqvAll, eqNil]
def kEqS (ns : List Int) : K2 := fun x y h => match x, y with
  | .scr, .ref r => match h[r]? with
    | some (.lst []) => some (.bl (eqNil ns), h)
    | _ => none
  | _, _ => none
theorem p_eqS : P2 g (rEqD g.K) (kEqS g.ns) := by
  intro ρ H hp x y vx vy v h' Q R rx ry e q
  unfold kEqS at e
  split at e
  · rename_i r
    split at e
    · rename_i hx
      cases e
      simp only [Rv] at rx ry
      obtain ⟨rfl, hs⟩ := rx
      obtain ⟨a, ha, rfl⟩ := ry
      obtain ⟨vs, e2, rv⟩ := R.obj r a _ ha hx
      simp only [Rvs] at rv
      subst rv
      refine ⟨.list (g.ns.map PyData.int), .list [], .lst hs.sq (dp_ints _), .lst (.inl (.inl e2)) .nil, shaped_ints _, by rfl, ?_⟩
      rw [eqv_nil]
      exact q ρ H _ (.refl _ _) R mk_bl
    · cases e
  · cases e
def kFdivW : K2 := fun x y h => match x, y with
  | .int i, .int j => if decide (0 < j) && decide (j < 18446744073709551616) then some (.int (i / j), h) else none
  | _, _ => none
theorem o_fdivW : ∀ X : Cx, X.K = g.K → OpR X (binaryOp .FloorDiv) (rI CDivW fun i j => .int (i / j)) := fun X hK => op_fdivW
theorem p_fdivW : P2 g (rI CDivW fun i j => .int (i / j)) kFdivW := by
  intro ρ H hp x y vx vy v h' Q R rx ry e q
  unfold kFdivW at e
  split at e
  · rename_i i j
    by_cases hz : (decide (0 < j) && decide (j < 18446744073709551616)) = true
    · rw [if_pos hz] at e
      cases e
      rw [Bool.and_eq_true] at hz
      have h1 := of_decide_eq_true hz.1
      have h2 := of_decide_eq_true hz.2
      refine ⟨i, j, rv_int rx, rv_int ry, ⟨h1, ?_⟩, q ρ H _ (.refl _ _) R mk_int⟩
      have h3 : j.natAbs < 2 ^ 64 := by omega
      have := (Nat.log2_lt (by omega : j.natAbs ≠ 0)).mpr h3
      omega
    · rw [if_neg hz] at e; cases e
  · cases e
def dNeg (f : De) : De := fun s h => (f s h).bind fun v h1 => match v with
  | .int i => .ok (.int (-i)) h1
  | _ => .no
theorem e_neg {a : Expr} {f : De} (ha : SE g X W n a f) : SE g X W n (.UnaryOp .USub a pos) (dNeg f) := by
  intro C
  refine (pe_un un_neg (ha C)).imp ?_
  rintro σ H Q ⟨ρ, s, hp, R, L, h⟩
  refine bE h R L fun v h1 ρ1 H1 x S1 R1 r1 L1 p1 => ?_
  cases v with
  | int i => exact ⟨i, rv_int r1, p1 ρ1 H1 _ (.refl _ _) R1 mk_int⟩
  | _ => exact p1.elim
end
end Wr
set_option Elab.async false
set_option linter.all false
set_option maxRecDepth 100000
set_option maxHeartbeats 4000000
set_option autoImplicit false
namespace Wr
open PySem PySem.Spec PyProof.Rows L2
def maskS (live : List Nat) : Nat → Sg → Sg
  | _, [] => []
  | i, x :: t => (if live.contains i then x else none) :: maskS live (i + 1) t
def refsS : Sg → List Nat
  | [] => []
  | some v :: t => refsV v ++ refsS t
  | none :: t => refsS t
def renSl (f : Nat → Option Nat) : Sg → Option Sg
  | [] => some []
  | none :: t => match renSl f t with
    | some r => some (none :: r)
    | none => none
  | some v :: t => match ren f v with
    | some w => match renSl f t with
      | some r => some (some w :: r)
      | none => none
    | none => none
def cleanS (n0 : Nat) (live : List Nat) (s : Sg) (h : Hs) : Option (Sg × Hs) :=
  let s1 := maskS live 0 s
  let m := List.range n0 ++ (reach 300 h (refsS s1 ++ (h.take n0).flatMap refsO) []).filter (fun i => decide (n0 ≤ i))
  if nodupB m then match renSl (idx m) s1 with
    | some s2 => match selO m h m with
      | some h2 => some (s2, h2)
      | none => none
    | none => none
  else none
theorem mask_len (live : List Nat) : ∀ (s : Sg) (i : Nat), (maskS live i s).length = s.length
  | [], _ => rfl
  | _ :: t, i => by simp [maskS, mask_len live t (i + 1)]
theorem mask_get (live : List Nat) : ∀ (s : Sg) (i j : Nat) (x : Va), (maskS live i s)[j]? = some (some x) → s[j]? = some (some x)
  | [], _, _, _, h => by simp [maskS] at h
  | y :: t, i, 0, x, h => by
    simp only [maskS, List.getElem?_cons_zero, Option.some.injEq] at h ⊢
    split at h
    · exact h
    · cases h
  | y :: t, i, j + 1, x, h => by
    simp only [maskS, List.getElem?_cons_succ] at h ⊢
    exact mask_get live t (i + 1) j x h
theorem renSl_get {f : Nat → Option Nat} : ∀ {s s2 : Sg}, renSl f s = some s2 → s2.length = s.length ∧ ∀ (j : Nat) (w : Va), s2[j]? = some (some w) → ∃ v, s[j]? = some (some v) ∧ ren f v = some w
  | [], _, e => by cases e; exact ⟨rfl, fun j w h => by simp at h⟩
  | none :: t, _, e => by
    unfold renSl at e
    split at e
    · rename_i r hr
      cases e
      obtain ⟨h1, h2⟩ := renSl_get hr
      refine ⟨by simp [h1], fun j w h => ?_⟩
      cases j with
      | zero => simp at h
      | succ j => simpa using h2 j w (by simpa using h)
    · cases e
  | some v :: t, _, e => by
    unfold renSl at e
    split at e
    · rename_i v' hv
      split at e
      · rename_i r hr
        cases e
        obtain ⟨h1, h2⟩ := renSl_get hr
        refine ⟨by simp [h1], fun j w h => ?_⟩
        cases j with
        | zero => simp at h; subst h; exact ⟨v, by simp, hv⟩
        | succ j => simpa using h2 j w (by simpa using h)
      · cases e
    · cases e
theorem clean_ok {g : Gd} {ρ0 ρ1 : List Addr} {H0 H1 : Hp} {live : List Nat} {s s2 : Sg} {h h2 : Hs} {σ : L2.St} (S1 : Sp1 ρ0 H0 ρ1 H1) (R1 : Rh g ρ1 H1 h) (L1 : Rsl g ρ1 H1 s σ) (e : cleanS ρ0.length live s h = some (s2, h2)) :
    ∃ ρ2, Sp1 ρ0 H0 ρ2 H1 ∧ Rh g ρ2 H1 h2 ∧ Rsl g ρ2 H1 s2 σ := by
  unfold cleanS at e
  simp only at e
  generalize hl : (reach 300 h (refsS (maskS live 0 s) ++ (h.take ρ0.length).flatMap refsO) []).filter (fun i => decide (ρ0.length ≤ i)) = l at e
  generalize hm : List.range ρ0.length ++ l = m at e
  by_cases hn : nodupB m = true
  · rw [if_pos hn] at e
    split at e
    · rename_i s3 hs
      split at e
      · rename_i h3 hh
        cases e
        obtain ⟨R2, mv, sub, at_⟩ := sel_ok R1 (nodupB_ok hn) hh
        have hlen : ρ0.length ≤ ρ1.length := S1.pre.length_le
        refine ⟨pickA ρ1 m, ⟨?_, fun b hb => S1.new b (sub b hb), S1.keep, S1.frz⟩, R2, ?_⟩
        · have e : ρ1.take ρ0.length = ρ0 := by
            obtain ⟨c, hc⟩ := S1.pre
            rw [← hc]; simp
          have q := range_take (l := l) (n0 := ρ0.length) hm.symm ρ1 hlen
          rw [e] at q
          exact q
        · obtain ⟨h1, h2⟩ := renSl_get hs
          refine ⟨by rw [h1, mask_len]; exact L1.len, fun j w hj => ?_⟩
          obtain ⟨v, hv, rv⟩ := h2 j w hj
          obtain ⟨x, hx, rx⟩ := L1.at_ j v (mask_get live s 0 j v hv)
          exact ⟨x, hx, ren_ok mv _ _ _ rx rv⟩
      · cases e
    · cases e
  · rw [if_neg hn] at e; cases e
def forC (n0 : Nat) (live : List Nat) (it : It') (t : Tg) (body : Ds) : Nat → Nat → Ds
  | 0, _, _, _ => .no
  | f + 1, i, s0, h0 => match cleanS n0 live s0 h0 with
    | none => .no
    | some (s, h) => match nxt it i h with
      | none => .no
      | some none => .nx s h
      | some (some v) => match setT t v s h with
        | none => .no
        | some s1 => match body s1 h with
          | .nx s2 h2 => forC n0 live it t body f (i + 1) s2 h2
          | .ct s2 h2 => forC n0 live it t body f (i + 1) s2 h2
          | .bk s2 h2 => .nx s2 h2
          | .rt v h2 => .rt v h2
          | .ex c s2 h2 => .ex c s2 h2
          | .no => .no
def dForC (live : List Nat) (di : Di) (t : Tg) (body : Ds) : Ds := fun s h => (di s h).bindS s fun it h1 => forC h1.length live it t body (itLen it h1 + 1) 0 s h1
section
variable {g : Gd} {X : Cx} {W : WX} {n : Nat} {pos : Pos} {tg iter : Expr}
theorem s_forC (live : List Nat) {b : Bool} {body : List Stmt} {di : Di} {t : Tg} {f : Ds} (hi : SI g X W (n + 1) b tg iter di) (hg : SG g X b tg t) (hb : SB g X W (n + 1) body f) (hs : ∀ x, foldedSetIterable iter X.env x = pure x := by intro _; rfl) :
    SS g X W (n + 1) (.For tg iter body [] pos) (dForC live di t f) := by
  intro C
  refine (ps_for C.pass C.calm (hi C) (hg C.K C.calm C.nd) (hb C) hs).imp ?_
  rintro D σ H ⟨ρ, s, hp, R, L, h⟩
  refine ⟨ρ, s, hp, R, L, ?_⟩
  unfold dForC at h
  cases q : di s hp with
  | no => rw [q] at h; exact h
  | ex c h1 => rw [q] at h; exact fun ρ1 H1 S1 R1 => h ρ1 H1 σ S1 R1 (L.step R S1)
  | ok it h1 =>
    rw [q] at h
    intro ρ0 H0 J S0 R0 hJ
    have h' := PoS.at h S0
    simp only [Rs.bindS] at h'
    rw [← R0.len] at h'
    refine ⟨fun i m σ1 H1 => ∃ ρ1 s1 h2, Sp1 ρ0 H0 ρ1 H1 ∧ Rh g ρ1 H1 h2 ∧ Rsl g ρ1 H1 s1 σ1 ∧ PoS g ρ0 H0 (forC ρ0.length live it t f m i s1 h2) D W, ⟨itLen it h1 + 1, ρ0, s, h1, .refl _ _, R0, L.step R S0, h'⟩, ?_⟩
    rintro i m σ1 H1 ⟨ρ1, s1, h2, S1, R1, L1, p1⟩
    cases m with
    | zero => exact p1.elim
    | succ m =>
      unfold forC at p1
      cases hc : cleanS ρ0.length live s1 h2 with
      | none => rw [hc] at p1; exact p1.elim
      | some w =>
        obtain ⟨s1', h2'⟩ := w
        rw [hc] at p1
        simp only at p1
        obtain ⟨ρ2, S1', R1', L1'⟩ := clean_ok S1 R1 L1 hc
        clear S1 R1 L1 hc
        split at p1
        · exact p1.elim
        · rename_i hq
          exact .inl ⟨hJ i ρ2 H1 h2' none S1' R1' hq, p1 ρ2 H1 σ1 S1' R1' L1'⟩
        · rename_i v hq
          obtain ⟨hgo, hy⟩ := hJ i ρ2 H1 h2' (some v) S1' R1' hq
          refine .inr ⟨hgo, fun σ' H' => ∃ ρ1 s1 h2, Sp1 ρ0 H0 ρ1 H' ∧ Rh g ρ1 H' h2 ∧ Rsl g ρ1 H' s1 σ' ∧ PoS g ρ0 H0 (forC ρ0.length live it t f m (i + 1) s1 h2) D W, fun σ' H' w => ⟨m, Nat.lt_succ_self m, w⟩, fun x H2 hyl => ?_⟩
          obtain ⟨S2, R2, ry⟩ := hy x H2 hyl
          split at p1
          · exact p1.elim
          · rename_i s2 hset
            refine ⟨ρ2, s1', h2', v, s2, R2, L1'.step R1' S2, ry, hset, fun σ' L' _ => ⟨ρ2, s2, h2', R2, L', ?_⟩⟩
            have SS := S1'.trans S2
            cases qb : f s2 h2' with
            | nx s3 h3 => rw [qb] at p1; exact fun ρ3 H3 σ3 S3 R3 L3 => ⟨ρ3, s3, h3, SS.trans S3, R3, L3, p1⟩
            | ct s3 h3 => rw [qb] at p1; exact fun ρ3 H3 σ3 S3 R3 L3 => ⟨ρ3, s3, h3, SS.trans S3, R3, L3, p1⟩
            | bk s3 h3 => rw [qb] at p1; exact fun ρ3 H3 σ3 S3 R3 L3 => p1 ρ3 H3 σ3 (SS.trans S3) R3 L3
            | rt v h3 => rw [qb] at p1; exact fun ρ3 H3 x3 S3 R3 L3 => p1 ρ3 H3 x3 (SS.trans S3) R3 L3
            | ex c s3 h3 => rw [qb] at p1; exact fun ρ3 H3 x3 S3 R3 L3 => p1 ρ3 H3 x3 (SS.trans S3) R3 L3
            | no => rw [qb] at p1; exact p1
end
section
variable {P : Program} {w : World} {g : Gd} {mg : Str → Option Value} {base : Heap}
def fdO (K : PySem.W.Frag) (a : Addr) : Option FuncData := match K.lookup a with
  | some ⟨_, _, .func fd, _⟩ => some fd
  | _ => none
theorem fdO_of {K : PySem.W.Frag} {x qual : Str} {params : Arguments} {body : List Stmt} {scope : Scope} {dvs : List V} {kws : List (Str × V)} {f : Addr} {fd : FuncData} (F : FunD K x qual params body scope dvs kws f fd) : fdO K f = some fd := by
  obtain ⟨oc, od, dV, kV, doc, pm, an, cdv, ct, osl, rfl, lk, _⟩ := F.ex
  unfold fdO
  rw [lk]
def Okf (P : Program) (w : World) (g : Gd) (mg : Str → Option Value) (base : Heap) (k : Nat) (x : Str) (ps : List Str) (np : Nat) (F : Fn) : Prop :=
  mg x = some (.ref (He.ga g.K x)) ∧ PySem.W.keepIn g.K (.ref (He.ga g.K x)) = true ∧ ∃ fd, fdO g.K (He.ga g.K x) = some fd ∧ FnOk P w g.K mg base (CXM P w) k (He.ga g.K x) fd ps (spD g np F) ∧ Binds g.K fd ps []
theorem Okf.mono {j k : Nat} {x : Str} {ps : List Str} {np : Nat} {F : Fn} (h : Okf P w g mg base j x ps np F) (hj : j ≤ k) : Okf P w g mg base k x ps np F := by
  obtain ⟨h1, h2, fd, h0, h3, h4⟩ := h
  exact ⟨h1, h2, fd, h0, h3.mono hj, h4⟩
def noF : Fn := fun _ _ => .no
abbrev FnP (K : PySem.W.Frag) (x : Str) (st : Stmt) : Prop := ∃ fd, FunD K x x (defArgs st) (defBody st) (defScope st) [] [] (He.ga K x) fd
abbrev BindsAll (x : Str) (st : Stmt) (ps : List Str) : Prop := ∀ (kV doc pm : Value) (an : Option Addr) (cdv ct : Value) (us : List Value), us.length = ps.length → bindArgs (PySem.W.fnOf x x (defArgs st) (defBody st) (defScope st) .none kV doc pm an cdv ct) ⟨us, []⟩ = pure (ps.zip us)
theorem Okf.no {x : Str} {st : Stmt} {ps : List Str} {np k : Nat} (F : FnP g.K x st) (hm : mg x = some (.ref (He.ga g.K x))) (hb : BindsAll x st ps) (hp : ps.length = np) : Okf P w g mg base k x ps np noF := by
  obtain ⟨fd, F⟩ := F
  refine ⟨hm, F.kp, fd, fdO_of F, ⟨fun vs H Q E h => by rw [hp]; exact h.1, fun A outer s H args us vs Q E _ _ _ _ h => ?_⟩, F.bindsN hb⟩
  obtain ⟨_, ρ, hh, xs, R, r, q⟩ := h
  exact q.elim
theorem mk_fn {x : Str} {st : Stmt} {N ps : List Str} {k nN np : Nat} {b : Ds} (F : FnP g.K x st) (hm : mg x = some (.ref (He.ga g.K x))) (hb : BindsAll x st ps) (S : FnScope N ps (defScope st)) (hN : N.length = nN) (hp : ps.length = np)
    (body : ∀ (f : Addr) (cdv : Value) (A : Around) (outer : List Env) (s : Shared) (H : Hp) (E : XK), SB g (cxOf (CXM P w) P w g.K mg base N x (defScope st) f cdv A outer s H E) (fun c d _ H' => E c d H') (k + 1) (defBody st) b) :
    Okf P w g mg base (k + 1) x ps np (fnD nN b) := by
  obtain ⟨fd, F⟩ := F
  refine ⟨hm, F.kp, fd, fdO_of F, ?_, F.bindsN hb⟩
  refine F.ok S (fun vs H Q E h => by rw [hp]; exact h.1) fun cdv A outer s H vs Q E hr h => ?_
  obtain ⟨hl, ρ, hh, xs, R, r, q⟩ := h
  have tk : Takes (cxOf (CXM P w) P w g.K mg base N x (defScope st) (He.ga g.K x) cdv A outer s H E) (fun c d _ H' => E c d H') := takes_of rfl rfl rfl rfl
  refine ⟨_, body (He.ga g.K x) cdv A outer s H E (Cz.mk1 rfl tk rfl S.nd hr (passes_of rfl)), ρ, xs.map some ++ List.replicate (nN - xs.length) none, hh, R, ?_, ?_⟩
  · have hx := r.length
    refine ⟨by simp [L2.start, hN, hx], fun i x e => ?_⟩
    by_cases hi : i < xs.length
    · rw [List.getElem?_append_left (by simpa using hi), List.getElem?_map] at e
      obtain ⟨y, ey, e2⟩ := Option.map_eq_some_iff.mp e
      cases e2
      obtain ⟨v, ev, rv⟩ := r.get ey
      refine ⟨v, ?_, rv⟩
      unfold L2.start
      rw [List.getElem?_append_left (by simp; omega), List.getElem?_map, ev]
      rfl
    · rw [List.getElem?_append_right (by simp; omega), List.getElem?_replicate] at e
      split at e <;> cases e
  · unfold fnD at q
    rw [← R.len] at q
    have q2 := compact_ok q
    cases qb : b (xs.map some ++ List.replicate (nN - xs.length) none) hh with
    | nx s1 h1 => rw [qb] at q2; exact fun ρ1 H1 σ1 S1 R1 L1 => q2 ρ1 H1 .non S1 R1 (by simp only [Rv])
    | rt v h1 => rw [qb] at q2; exact q2
    | ex c s1 h1 => rw [qb] at q2; exact fun ρ1 H1 σ1 S1 R1 L1 => q2 ρ1 H1 S1 R1
    | bk s1 h1 => rw [qb] at q2; exact q2.elim
    | ct s1 h1 => rw [qb] at q2; exact q2.elim
    | no => rw [qb] at q2; exact q2.elim
end
section
variable {g : Gd} {X : Cx} {W : WX} {n : Nat}
/-- f(..) of a def that keeps its promise -/
theorem e_callF {np : Nat} {F : Fn} {ps : List Str} {x : Str} {p pos : Pos} {e : Expr} {es : List Expr} {a : Da} (O : Okf X.prog X.w g X.mg X.base n x ps np F) (hK : X.K = g.K) (ha : SA g X W (n + 1) (e :: es) a)
    (hg : Gl X x := by rfl) (hdb : (x == ("__debug__" : Str)) = false := by decide) (he : starEach (e :: es) X.env = (false, eval e X.env) :: starEach es X.env := by rfl) (hpl : (backTo pos (starEach es X.env)).any (·.1) = false := by rfl) :
    SE g X W (n + 1) (.Call (.Name x p) (e :: es) [] pos) (dCall F np a) := by
  obtain ⟨h1, h2, fd, _, h3, h4⟩ := O
  rw [← hK] at h1 h2 h3 h4
  exact e_call h3 h4 h1 h2 (Nat.le_refl _) ha hg hdb he hpl
end
def vaB (K : PySem.W.Frag) : Nat → Va → Value → Bool
  | _, .non, .none => true
  | _, .bl b, .bool c => b == c
  | _, .int i, .int j _ => decide (i = j)
  | _, .str x, .str y _ => decide (x = y)
  | n + 1, .tup xs, .ref a => match K.lookup a with
    | some o => decide (o.cls = .type "tuple") && (decide (o.dict = none) && (match o.data with
      | .seq its _ => decide (its.size ≤ 1000) && (decide (its.size = xs.length) && (xs.zip its.toList).all fun p => vaB K n p.1 p.2)
      | _ => false))
    | none => false
  | _, _, _ => false
/-- what stands in the written part is what it is at every heap -/
theorem vaB_ok {g : Gd} : ∀ (n : Nat) (v : Va) (u : Value), vaB g.K n v u = true → ∃ y, RelV y u ∧ Steady g v y
  | n, .non, u, h => by
    cases u <;> (cases n <;> simp only [vaB] at h <;> first | exact absurd h Bool.false_ne_true | exact ⟨.non, rfl, fun _ _ => mk_non⟩)
  | n, .bl b, u, h => by
    cases u with
    | bool c =>
      have : b = c := by cases n <;> simpa only [vaB, beq_iff_eq] using h
      subst this
      exact ⟨.bl b, rfl, fun _ _ => mk_bl⟩
    | _ => cases n <;> simp only [vaB] at h <;> exact absurd h Bool.false_ne_true
  | n, .int i, u, h => by
    cases u with
    | int j t =>
      have : i = j := by cases n <;> simpa only [vaB, decide_eq_true_eq] using h
      subst this
      exact ⟨.int i, ⟨t, rfl⟩, fun _ _ => mk_int⟩
    | _ => cases n <;> simp only [vaB] at h <;> exact absurd h Bool.false_ne_true
  | n, .str x, u, h => by
    cases u with
    | str y t =>
      have : x = y := by cases n <;> simpa only [vaB, decide_eq_true_eq] using h
      subst this
      exact ⟨.str x, ⟨t, rfl⟩, fun _ _ => mk_str⟩
    | _ => cases n <;> simp only [vaB] at h <;> exact absurd h Bool.false_ne_true
  | 0, .tup xs, u, h => by cases u <;> simp only [vaB] at h <;> exact absurd h Bool.false_ne_true
  | n + 1, .tup xs, u, h => by
    cases u with
    | ref a =>
      simp only [vaB] at h
      cases hl : g.K.lookup a with
      | none => rw [hl] at h; exact absurd h Bool.false_ne_true
      | some o =>
        rw [hl] at h
        simp only [Bool.and_eq_true, decide_eq_true_eq] at h
        obtain ⟨hc, hd, h⟩ := h
        cases ho : o.data with
        | seq its c =>
          rw [ho] at h
          simp only [Bool.and_eq_true, decide_eq_true_eq] at h
          obtain ⟨h1, h2, h3⟩ := h
          have key : ∀ (xs : List Va) (us : List Value), us.length = xs.length → ((xs.zip us).all fun p => vaB g.K n p.1 p.2) = true → ∃ ys, Vals ys us ∧ ∀ ρ H, Rvs g ρ H xs ys := by
            intro xs
            induction xs with
            | nil => intro us e _; cases us with
              | nil => exact ⟨[], .nil, fun _ _ => Rvs.nil⟩
              | cons _ _ => simp at e
            | cons x t ih =>
              intro us e h
              cases us with
              | nil => simp at e
              | cons u ut =>
                simp only [List.zip_cons_cons, List.all_cons, Bool.and_eq_true] at h
                obtain ⟨y, ry, sy⟩ := vaB_ok n x u h.1
                obtain ⟨ys, rs, ss⟩ := ih ut (by simpa using e) h.2
                exact ⟨y :: ys, .cons ry rs, fun ρ H => Rvs.cons (sy ρ H) (ss ρ H)⟩
          obtain ⟨ys, rs, ss⟩ := key xs its.toList (by simpa using h2) h3
          refine ⟨.ref a, rfl, fun ρ H => ?_⟩
          simp only [Rv]
          exact ⟨a, ys, rfl, .inr ⟨o, its, c, hl, hc, hd, ho, by rw [sizeLine_eq]; omega, rs⟩, ss ρ H⟩
        | _ => rw [ho] at h; exact absurd h Bool.false_ne_true
    | _ => simp only [vaB] at h; exact absurd h Bool.false_ne_true
  | n, .ty _, u, h => by cases u <;> (cases n <;> simp only [vaB] at h <;> exact absurd h Bool.false_ne_true)
  | n, .gl _, u, h => by cases u <;> (cases n <;> simp only [vaB] at h <;> exact absurd h Bool.false_ne_true)
  | n, .scr, u, h => by cases u <;> (cases n <;> simp only [vaB] at h <;> exact absurd h Bool.false_ne_true)
  | n, .exc _, u, h => by cases u <;> (cases n <;> simp only [vaB] at h <;> exact absurd h Bool.false_ne_true)
  | n, .ref _, u, h => by cases u <;> (cases n <;> simp only [vaB] at h <;> exact absurd h Bool.false_ne_true)
def conB (K : PySem.W.Frag) (x : Str) (v : Va) : Bool := match PySem.W.nsIn K mainGlobals x with
  | some (some u) => vaB K 9 v u
  | _ => false
def Con1 (g : Gd) (mg : Str → Option Value) (x : Str) (v : Va) : Prop := ∃ u y, mg x = some u ∧ RelV y u ∧ Steady g v y
theorem conB_ok {g : Gd} {h : Heap} {mg : Str → Option Value} (X : g.K.In h) (G : h.Ns mainGlobals mg) {x : Str} {v : Va} (c : conB g.K x v = true) : Con1 g mg x v := by
  unfold conB at c
  split at c
  · rename_i u hu
    obtain ⟨y, r, s⟩ := vaB_ok 9 v u c
    exact ⟨u, y, PySem.W.mg_of X G hu, r, s⟩
  · cases c
theorem e_con {g : Gd} {X : Cx} {W : WX} {n : Nat} {x : Str} {v : Va} {pos : Pos} (c : Con1 g X.mg x v) (hg : Gl X x := by rfl) (hd : (x == ("__debug__" : Str)) = false := by decide) : SE g X W n (.Name x pos) (dC v) := by
  obtain ⟨u, y, h1, h2, h3⟩ := c
  exact e_glob h1 h2 h3 hg hd
end Wr
set_option Elab.async false
set_option linter.all false
set_option maxRecDepth 100000
set_option maxHeartbeats 4000000
set_option autoImplicit false
namespace Wr
open PySem PySem.Spec PyProof.Rows L2
theorem cx_false (P : Program) (w : World) (H : Hp) (s : Shared) (e : Value) (s' : Shared) (z : CXM P w [] H s (fun _ _ _ => False) e s') : False := by
  rcases z with ⟨a, B, H', cls, d, _, _, _, _, _, _, _, h⟩ | ⟨a, B, H', cls, d, _, _, _, _, _, _, _, h⟩
  · exact h.2
  · exact h.2
end Wr
set_option Elab.async false
set_option linter.all false
set_option maxRecDepth 100000
set_option maxHeartbeats 4000000
set_option autoImplicit false
namespace Wr
open PySem PySem.Spec PyProof.Rows L2
theorem mix_nil (os : Hs) : ∀ (hp : Hs) (j : Nat), mix [] os j hp = hp
  | [], _ => rfl
  | o :: t, j => by simp [mix, mix_nil os t (j + 1), idx]
theorem callD_flat {F : Fn} {args : List Va} {v : Va} {hp : Hs} (h1 : refsVs args = []) (h2 : rens (idx []) args = some args) (h3 : ren (bkI [] hp.length) v = some v) (h : F args [] = .ok v []) : callD F args hp = .ok v hp := by
  unfold callD
  rw [h1]
  have e : reach 300 hp [] [] = [] := rfl
  simp only [e]
  have e2 : nodupB [] = true := rfl
  rw [if_pos e2, h2]
  have e3 : selO [] hp [] = some [] := rfl
  simp only [e3]
  rw [h]
  simp only [back, h3]
  have e4 : backH [] hp [] = some hp := by
    unfold backH
    have e5 : renOs (bkI [] hp.length) [] = some [] := rfl
    rw [e5]
    simp [mix_nil]
  rw [e4]
end Wr
set_option Elab.async false
set_option linter.all false
set_option maxRecDepth 100000
set_option maxHeartbeats 4000000
set_option autoImplicit false
namespace Wr
open PySem PySem.Spec PyProof.Rows L2
section
variable {g : Gd}
def kSortA : K1 := fun xs h => match xs with
  | [.tup ys] => (intsV ys).map fun ns => (.ref h.length, h ++ [.lst ((sortI ns).map Va.int)])
  | _ => kSortI xs h
end
def dDrop (live : List Nat) (k : Ds) : Ds := fun s h => k (maskS live 0 s) h
end Wr
set_option Elab.async false
set_option linter.all false
set_option maxRecDepth 100000
set_option maxHeartbeats 4000000
set_option autoImplicit false
namespace Wr
open PySem PySem.Spec PyProof.Rows L2
theorem meets_enum_tup (l : Addr) (items : Array Value) (n : Nat) (dct : Option Addr) (sl : Array (Option Value)) :
    Meets (Builtin.«enumerate.__new__» ⟨[.type "enumerate", .ref l], []⟩) (fun _ R s => s.heap.get? l = some { cls := .type "tuple", dict := dct, data := .seq items n, slots := sl } ∧
      R (.ok (.ret (.ref (s.heap.push { cls := .type "tuple_iterator", data := .fields #[.ref l, .int 0 0] }).objs.size)))
        { s with heap := (s.heap.push { cls := .type "tuple_iterator", data := .fields #[.ref l, .int 0 0] }).push { cls := .type "enumerate", data := .fields #[.none, .bool false, .ref s.heap.objs.size, rawInt 0, .none, .none] } }) :=
  .of_wp fun prog w A R s h => by
    obtain ⟨hp, g, d, tk, os⟩ := s; obtain ⟨hl, h⟩ := h
    have hsub := sub_enumerate
    have hL : Heap.IsTuple (Shared.heap ⟨hp, g, d, tk, os⟩) l items := ⟨_, hl, rfl, n, rfl⟩
    wp_walk using wpAny_loadPart' hl
    refine wpAny_stack_any fun st => wpAny_pure ?_
    split
    · rename_i c _ _ _ _ _
      cases (c == Value.type "enumerate")
      · wp_walk using wpAny_loadPart' hl, wpAny_pyIter_tuple hL
        exact ⟨_, rfl, h⟩
      · wp_walk using wpAny_loadPart' hl, wpAny_pyIter_tuple hL
        exact ⟨_, rfl, h⟩
    · wp_walk using wpAny_loadPart' hl, wpAny_pyIter_tuple hL
      exact ⟨_, rfl, h⟩
section
variable {prog : Program} {w : World} {A : Around} {E : Value → Shared → Prop} {s : Shared}
theorem call_enum_tup {l : Addr} {items : Array Value} {Q : Value → Shared → Prop} (hL : s.heap.IsTuple l items)
    (h : ∀ h', IsEnum h' (s.heap.objs.size + 1) s.heap.objs.size 0 .none → h'.IsTupleIter s.heap.objs.size l 0 → h'.objs.size = s.heap.objs.size + 2 →
      (∀ b o, s.heap.get? b = some o → h'.get? b = some o) → Q (.ref (s.heap.objs.size + 1)) { s with heap := h' }) :
    wpAny (model prog w) A (call (.type "enumerate") [.ref l]) Q E s := by
  obtain ⟨⟨c, dct, dt, sl⟩, hl, hc, n, hd⟩ := hL
  replace hc : c = .type "tuple" := hc
  replace hd : dt = .seq items n := hd
  subst hc hd
  refine callType_new F.called_enumerate (by decide) (F.typeCall_enumerate_1 _) (F.newCall_enumerate_1 _) (fun obj => F.args_object_init_2 obj _) F.entry_enumerate_new
    (meets_enum_tup l items n dct sl) ⟨hl, ?_⟩
  have hz : (s.heap.push { cls := .type "tuple_iterator", data := .fields #[.ref l, .int 0 0] }).objs.size = s.heap.objs.size + 1 := Heap.size_push ..
  show _ ∧ _
  rw [hz]
  have he : IsEnum ((s.heap.push { cls := .type "tuple_iterator", data := .fields #[.ref l, .int 0 0] }).push
      { cls := .type "enumerate", data := .fields #[.none, .bool false, .ref s.heap.objs.size, rawInt 0, .none, .none] }) (s.heap.objs.size + 1) s.heap.objs.size 0 .none := by
    have := Heap.get?_push_size (s.heap.push { cls := .type "tuple_iterator", data := .fields #[.ref l, .int 0 0] })
      (o := { cls := .type "enumerate", data := .fields #[.none, .bool false, .ref s.heap.objs.size, rawInt 0, .none, .none] }) rfl
    rw [hz] at this; exact this
  refine ⟨⟨_, he, rfl⟩, h _ he ⟨_, Heap.get?_push_of_some _ (Heap.get?_push_size _ rfl), rfl, rfl⟩ (by rw [Heap.size_push, hz]) fun b o x => Heap.get?_push_of_some _ (Heap.get?_push_of_some _ x)⟩
theorem call_enumK (k : Sk) {l : Addr} {items : Array Value} {Q : Value → Shared → Prop} (hL : IsSq s.heap k l items)
    (h : ∀ h', IsEnum h' (s.heap.objs.size + 1) s.heap.objs.size 0 .none → IsIt h' k s.heap.objs.size l 0 → h'.objs.size = s.heap.objs.size + 2 →
      (∀ b o, s.heap.get? b = some o → h'.get? b = some o) → Q (.ref (s.heap.objs.size + 1)) { s with heap := h' }) :
    wpAny (model prog w) A (call (.type "enumerate") [.ref l]) Q E s := by
  cases k with
  | L => exact call_enumerate_list hL h
  | T => exact call_enum_tup hL h
end
def ItE (K : PySem.W.Frag) (k : Sk) (a : Addr) : It :=
  ⟨fun i H => ∃ (xs : List V) (x : V), Sq2 K H k a xs ∧ xs[i]? = some x,
    fun i H v H' => ∃ T x, v = .ref T ∧ H T = none ∧ H' = upd H T (.tup [.int (i : Nat), x]) ∧ ∀ xs, Sq2 K H k a xs → xs[i]? = some x,
    fun i H => ∃ xs : List V, Sq2 K H k a xs ∧ i = xs.length⟩
theorem turn_enumM {P : Program} {w : World} {K : PySem.W.Frag} {elts : List Expr} {kk : Nat} {tpos : Pos} {k : Sk} {a : Addr} {N : Nat} (ha : a < N) :
    Turn P w K (.Tuple elts kk tpos) (ItE K k a) [N + 1, N] (N + 1) (fun i h => (∃ old, IsEnum h (N + 1) N (0 + (i : Int)) old) ∧ IsIt h k N a i) where
  mem := by simp
  obj := fun i h st c hc => by
    obtain ⟨⟨old, he⟩, h1⟩ := st
    simp only [List.mem_cons, List.not_mem_nil, or_false] at hc
    rcases hc with q | q
    all_goals subst q
    · exact ⟨_, he, fun v q => nomatch q⟩
    · exact h1.obj
  keep := fun i h h' st q => by
    obtain ⟨⟨old, he⟩, h1⟩ := st
    exact ⟨⟨old, q _ (by simp) _ he⟩, h1.kept fun o e => q _ (by simp) o e⟩
  item := by
    intro X hP hw hK hc i pins s σ H E I hf st hg
    subst hP hw hK
    obtain ⟨he, h1⟩ := st
    obtain ⟨xs, x, hqx, hx⟩ := hg
    obtain ⟨its, rv, p, _⟩ := Sq2.inv I hqx
    have hh : X.A.in1.handled = none := I.ok.hd hc
    have GG := GoesN.enumFrom (prog := X.prog) (w := X.w) (A := X.A) (elts := elts) (x1 := kk) (pos := tpos) 0 (drawsK k hh N a (Nat.ne_of_lt ha) its.toArray) (N + 1) (Nat.succ_ne_self N)
      (by simp only [List.mem_cons, List.not_mem_nil, or_false, not_or]; exact ⟨Nat.succ_ne_self N, fun z => absurd ha (by rw [← z]; exact Nat.not_lt.mpr (Nat.le_succ N))⟩) (by simp)
    have li : i < its.length := by rw [← rv.length]; exact (List.getElem?_eq_some_iff.mp hx).1
    refine GG.goes i s _ E (by simpa using li) ⟨he, h1, p⟩ fun v h' tk hY st' hk _ => ?_
    obtain ⟨T, t, u, rfl, hT, hu, hIs⟩ := hY
    obtain ⟨w1, e1, ru⟩ := rv.get hx
    have eu : u = w1 := by
      have : its[i]? = some u := by simpa using hu
      rw [e1] at this; exact (Option.some.inj this).symm
    subst eu
    have e0 : (0 : Int) + (i : Int) = ((i : Nat) : Int) := by omega
    rw [e0] at hIs
    have new : ObjOk X.prog X.w (upd H T (.tup [.int (i : Nat), x])) h' T (.tup [.int (i : Nat), x]) := ⟨by show 2 ≤ sizeLine; decide, [.int (i : Nat) t, u], .cons ⟨_, rfl⟩ (.cons ru .nil), hIs⟩
    obtain ⟨z', h1', _⟩ := st'
    have fresh : ∀ c, c ∈ [N + 1, N] → c ≠ T := fun c hcm e => by
      have hlt : c < s.heap.objs.size := by
        simp only [List.mem_cons, List.not_mem_nil, or_false] at hcm
        obtain ⟨old, he⟩ := he
        rcases hcm with q | q
        all_goals subst q
        · exact Heap.lt_size he
        · obtain ⟨o, e, _⟩ := h1.obj; exact Heap.lt_size e
      rw [e] at hlt
      exact absurd (Nat.lt_of_lt_of_le hlt hT) (Nat.lt_irrefl _)
    exact ⟨.ref T, upd H T (.tup [.int (i : Nat), x]), I.turnedNew (t' := tk) (ch := [N + 1, N]) (fun c o hb e => hk c o hb e) hf hT new, rfl,
      ⟨T, x, rfl, I.hok.fresh hT, rfl, fun l hl => by rw [Sq2.inj I hl hqx]; exact hx⟩, ⟨z', h1'⟩, fun c hcm => by rw [upd_ne (fresh c hcm)]; exact (hf c hcm).1⟩
  done := by
    intro X hP hw hK hc i pins s σ H E I hf st hg
    subst hP hw hK
    obtain ⟨he, h1⟩ := st
    obtain ⟨xs, hqx, hend⟩ := hg
    obtain ⟨its, rv, p, _⟩ := Sq2.inv I hqx
    have hh : X.A.in1.handled = none := I.ok.hd hc
    have GG := GoesN.enumFrom (prog := X.prog) (w := X.w) (A := X.A) (elts := elts) (x1 := kk) (pos := tpos) 0 (drawsK k hh N a (Nat.ne_of_lt ha) its.toArray) (N + 1) (Nat.succ_ne_self N)
      (by simp only [List.mem_cons, List.not_mem_nil, or_false, not_or]; exact ⟨Nat.succ_ne_self N, fun z => absurd ha (by rw [← z]; exact Nat.not_lt.mpr (Nat.le_succ N))⟩) (by simp)
    have ei : i = its.toArray.size := by simp only [List.size_toArray, ← rv.length]; exact hend
    exact GG.stops s (fun s1 => Inv X pins σ H s1) E (by rw [← ei]; exact ⟨he, h1, p⟩) fun h' tk hk _ => I.turnedL (t' := tk) (ch := [N + 1, N]) (fun c o hb e => hk c o hb e) hf
  self := fun A i s Q E st h => let ⟨⟨_, he⟩, _⟩ := st; wpAny_pyIter_enum he h
section
variable {g : Gd} {X : Cx} {W : WX} {n : Nat} {pos tpos : Pos} {e : Expr} {elts : List Expr} {kk : Nat}
def iEnumM (K : PySem.W.Frag) (ta : TA) : TI := fun σ H R => ta σ H fun vs H1 => ∃ a k xs, vs = [.ref a] ∧ Sq2 K H1 k a xs ∧ R (ItE K k a) H1
theorem pi_enumM {ta : TA} {p : Pos} (hg : Gl X "enumerate") (hm : X.mg "enumerate" = none) (ha : PA X [e] ta) (hs : starEach [e] X.env = [(false, eval e X.env)]) :
    PI X (.Tuple elts kk tpos) (.Call (.Name "enumerate" p) [e] [] pos) (iEnumM X.K ta) := by
  constructor
  intro pins s σ H R I h
  refine Call_ (ld_blt I hg hm boot_enumerate (PyProof.Rows.callWith_type1 (thn (ha.run pos pins s σ H _ I h) ?_) hs rfl))
  rintro us s1 ⟨vs, H1, I1, r1, a, k, xs, rfl, hqx, q⟩
  rw [Vals.ref1 r1]
  obtain ⟨its, rv, p1, l1⟩ := Sq2.inv I1 hqx
  refine call_enumK k p1 fun h' he hit hsz hk => wpAny_pyIter_enum he ?_
  refine ⟨_, [s1.heap.objs.size + 1, s1.heap.objs.size], _, _, H1, rfl, I1.kept (t' := s1.toks) hk, turn_enumM l1, ⟨⟨.none, he⟩, hit⟩, fun c hc => ?_, q⟩
  have hle : s1.heap.objs.size ≤ c := by
    simp only [List.mem_cons, List.not_mem_nil, or_false] at hc
    rcases hc with z | z <;> subst z <;> first | exact Nat.le_add_right _ _ | exact Nat.le_refl _
  exact I1.fpOk hle (I1.hok.fresh hle)
theorem rit_enum {ρ : List Addr} {H : Hp} {hp : Hs} {it : It'} {k : Sk} {a : Addr} (R : Rh g ρ H hp) (c : Cmp g ρ H it k a) : Rit g ρ H true (.enum it) (ItE g.K k a) := by
  intro i ρ1 H1 hp1 o S1 R1 hq
  unfold nxt at hq
  by_cases hl : i ≤ itLen it hp1
  · rw [if_pos hl] at hq
    cases q1 : nxt it i hp1 with
    | none => rw [q1] at hq; cases hq
    | some o1 =>
      obtain ⟨ws, sq, ln, n1, s1⟩ := c.at R S1 R1 q1
      rw [q1] at hq
      cases o1 with
      | none =>
        cases hq
        have := n1 rfl
        rw [List.getElem?_eq_none_iff] at this
        exact ⟨ws, sq, by omega⟩
      | some v =>
        cases hq
        obtain ⟨x, ex, rx⟩ := s1 v rfl
        refine ⟨⟨ws, x, sq, ex⟩, fun z H2 hy => ?_⟩
        obtain ⟨T, x', rfl, hT, rfl, f1⟩ := hy
        have e1 := f1 ws sq
        rw [ex] at e1; cases e1
        obtain ⟨S2, R2⟩ := R1.laid (u := .tup [.int (i : Nat), x]) hT
        exact ⟨S2, R2, .inr ⟨[.int (i : Nat), v], [.int (i : Nat), x], T, rfl, rfl, .inl (.inl upd_same), Rvs.step R1 S2 _ _ (Rvs.cons mk_int (Rvs.one rx))⟩⟩
  · rw [if_neg hl] at hq; cases hq
def dEnum (f : Da) : Di := fun s h => (f s h).bind fun vs h1 => match vs with
  | [x] => if noStr x then (itOf x h1).bind fun a h2 => .ok (.enum a) h2 else .no
  | _ => .no
theorem i_enum {f : Da} {p : Pos} (hm : X.mg "enumerate" = none) (ha : SA g X W n [e] f) (hg : Gl X "enumerate" := by rfl) (hs : starEach [e] X.env = [(false, eval e X.env)] := by rfl) :
    SI g X W n true (.Tuple elts kk tpos) (.Call (.Name "enumerate" p) [e] [] pos) (dEnum f) := by
  intro C
  refine (pi_enumM hg hm (ha C) hs).imp ?_
  rintro σ H Rr ⟨ρ, s, hp, R, L, h⟩
  rw [C.K]
  refine iBA h R L fun v h1 ρ1 H1 x e1 S1 R1 r1 L1 p1 => ?_
  split at p1
  · rename_i v1
    by_cases ns : noStr v1 = true
    · rw [if_pos ns] at p1
      have n1 : ∀ z, v1 ≠ .str z := fun z q => by rw [q] at ns; exact nomatch ns
      obtain ⟨x1, rfl, q1⟩ := r1.inv1
      cases t1 : itOf v1 h1 with
      | no => rw [t1] at p1; exact p1.elim
      | ex c h2 => exfalso; cases v1 <;> simp only [itOf] at t1 <;> first | cases t1 | (split at t1 <;> cases t1)
      | ok it h2 =>
        rw [t1] at p1
        simp only [Rs.bind] at p1
        obtain ⟨rfl, k, a, xs, rfl, c, sq⟩ := cmp_of R1 q1 t1 n1
        exact ⟨a, k, xs, rfl, sq, p1 ρ1 H1 _ (.refl _ _) R1 (rit_enum R1 c)⟩
    · rw [if_neg ns] at p1; exact p1.elim
  · exact p1.elim
def dCall0 (F : Fn) : De := fun _ h => callD F [] h
theorem e_callF0 {F : Fn} {x : Str} {p : Pos} (O : Okf X.prog X.w g X.mg X.base n x [] 0 F) (hK : X.K = g.K) (hg : Gl X x := by rfl) (hdb : (x == ("__debug__" : Str)) = false := by decide) :
    SE g X W (n + 1) (.Call (.Name x p) [] [] pos) (dCall0 F) := by
  obtain ⟨h1, h2, fd, _, h3, h4⟩ := O
  rw [← hK] at h1 h2 h3 h4
  intro C
  refine ⟨fun pins s σ H Q I h => ?_⟩
  obtain ⟨ρ, s', hp, R, L, h⟩ := h
  refine wpAny_Call_Name_kw (ld_glob I hg h1 ?_ hdb)
  exact PySem.W.callWith_K0 I.kIn h2 (run_fnS (E := WE W) (us := []) h3 C.room h4 (passAt C.tk σ) I .nil (sp_call R Rvs.nil rfl h))
end
end Wr
set_option Elab.async false
set_option linter.all false
set_option maxRecDepth 100000
set_option maxHeartbeats 4000000
set_option autoImplicit false
namespace Wr
open PySem PySem.Spec PyProof.Rows L2
section
variable {g : Gd}
def kSumA : K1 := fun xs h => match xs with
  | [.tup ys] => (intsV ys).map fun ns => (.int ns.sum, h)
  | _ => kSum xs h
end
end Wr
set_option Elab.async false
set_option linter.all false
set_option maxRecDepth 100000
set_option maxHeartbeats 4000000
set_option autoImplicit false
namespace Wr
open PySem PySem.Spec PyProof.Rows L2
def dPut2 (fo fi fo2 fi2 : De) (fv : Da) : Ds := fun s h => (fv s h).bindS s fun vs h1 => match vs with
  | [v, w] => (fo s h1).bindS s fun o h2 => (fi s h2).bindS s fun i h3 => match kPutL o i v h3 with
    | some h4 => (fo2 s h4).bindS s fun o2 h5 => (fi2 s h5).bindS s fun i2 h6 => match kPutL o2 i2 w h6 with
      | some h7 => .nx s h7
      | none => .no
    | none => .no
  | _ => .no
end Wr
set_option Elab.async false
set_option linter.all false
set_option maxRecDepth 100000
set_option maxHeartbeats 4000000
set_option autoImplicit false
namespace Wr
open PySem PySem.Spec PyProof.Rows L2
section
variable {X : Cx} {pins : List (Addr × Obj)} {σ : L2.St} {H : Hp} {s : Shared}
theorem SqN.key (I : Inv X pins σ H s) {b : Addr} {ks : List Key} (h : SqN X.K H b (ks.map kV)) : (tupleKind (mixKind X.prog X.w)).is s.heap ks b := by
  obtain ⟨its, r, ⟨o, h1, h2, n, h3⟩, _⟩ := I.tuple h.sqT
  exact ⟨o, its.toArray, n, h1, h2, h3, by simpa using items_are r⟩
theorem KTn.val {K : PySem.W.Frag} {kvs : List (List Key × V)} {xs : List (List Key × Addr × Value)} (r : KTn K H kvs xs) (k : List Key) : RelO (valV kvs k) ((atKey xs k).map (·.2)) := by
  induction r with
  | nil => exact True.intro
  | @cons p q ps qs h t ih =>
    obtain ⟨h1, _, h2⟩ := h
    by_cases e : p.1 = k
    · have b : atKey (q :: qs) k = some q.2 := by simp [atKey, List.find?_cons, h1.symm.trans e]
      rw [valV_pos e, b]; exact h2
    · have b : atKey (q :: qs) k = atKey qs k := by simp [atKey, List.find?_cons, show ¬ q.1 = k from fun z => e (h1.trans z)]
      rw [valV_neg e, b]; exact ih
theorem KTn.repl {K : PySem.W.Frag} {kvs : List (List Key × V)} {xs : List (List Key × Addr × Value)} (r : KTn K H kvs xs) (k : List Key) {y : V} {u : Value} (ry : RelV y u) :
    KTn K H (kvs.map fun kv => if kv.1 = k then (kv.1, y) else kv) (xs.map (putAt k u)) := by
  induction r with
  | nil => exact .nil
  | @cons p q ps qs h t ih =>
    rw [List.map_cons, List.map_cons]
    refine .cons ?_ ih
    obtain ⟨h1, h2, h3⟩ := h
    unfold putAt
    by_cases e : p.1 = k
    · rw [if_pos e, if_pos (h1.symm.trans e)]; exact ⟨h1, h2, ry⟩
    · rw [if_neg e, if_neg (fun z => e (h1.trans z))]; exact ⟨h1, h2, h3⟩
theorem KTn.put {K : PySem.W.Frag} {kvs : List (List Key × V)} {xs : List (List Key × Addr × Value)} (r : KTn K H kvs xs) (k : List Key) {b : Addr} {y : V} {u : Value} (hb : SqN K H b (k.map kV)) (ry : RelV y u) :
    KTn K H (putK kvs k y) (storedH xs k b u) := by
  have e : (kvs.any fun kv => decide (kv.1 = k)) = (atKey xs k).isSome := by
    rw [valV_any, (KTn.val r k).isSome_eq, Option.isSome_map]
  unfold putK storedH
  rw [e]
  by_cases q : (atKey xs k).isSome = true
  · rw [if_pos q, if_pos q]; exact KTn.repl r k ry
  · rw [if_neg q, if_neg q]; exact Paired.snoc r ⟨rfl, hb, ry⟩
theorem DtX.dict (I : Inv X pins σ H s) {a : Addr} {xs : List (List Key × Addr × Value)} {ws : List (List Key × V)} (h1 : H a = some (DTo a xs)) (h2 : KTn X.K H ws xs) (h3 : (xs.map (·.1)).Nodup) : s.heap.DictOfH (tupleKind (mixKind X.prog X.w)) a xs := by
  obtain ⟨⟨o, es, ep, e1, e2, e3, e4⟩, _⟩ := (show ObjOk X.prog X.w H s.heap a (DTo a xs) from I.hok a _ h1)
  refine ⟨o, es, ep, e1, e2, e3, e4 _ _, ?_, h3⟩
  have all : ∀ {l : List (List Key × V)} {m : List (List Key × Addr × Value)}, KTn X.K H l m → ∀ x ∈ m, (tupleKind (mixKind X.prog X.w)).is s.heap x.1 x.2.1 := by
    intro l m q
    induction q with
    | nil => intro x hx; exact nomatch hx
    | @cons p q ps qs hq t ih =>
      intro x hx
      rcases List.mem_cons.mp hx with e | hx
      · subst e
        exact SqN.key I (by rw [← hq.1]; exact hq.2.1)
      · exact ih x hx
  exact all h2
end
def keyT (y : Va) : Option (List Int) := match y with
  | .tup ys => intsV ys
  | _ => none
def inls (is : List Int) : List Key := is.map Sum.inl
def kDgX : K2 := fun x y h => match x with
  | .ref r => match h[r]? with
    | some (.dT kvs) => (keyT y).bind fun k => (gK kvs (inls k)).map fun v => (v, h)
    | _ => none
  | _ => none
section
variable {g : Gd} {X : Cx} {W : WX} {n : Nat} {pos : Pos}
def kPutX (o i v : Va) (h : Hs) : Option Hs := match o with
  | .ref r => match h[r]? with
    | some (.dT kvs) => if decide (kvs.length < 1000) then (keyT i).map fun k => h.set r (.dT (pK kvs (inls k) v)) else none
    | some (.dK []) => (keyT i).map fun k => h.set r (.dT [(inls k, v)])
    | _ => none
  | _ => none
end
end Wr
set_option Elab.async false
set_option linter.all false
set_option maxRecDepth 100000
set_option maxHeartbeats 4000000
set_option autoImplicit false
namespace Wr
open PySem PySem.Spec PyProof.Rows L2
section
variable {g : Gd}
def kMaxT : K1 := fun xs h => match xs with
  | [.tup ys] => match intsV ys with
    | some (m :: t) => some (.int (maxI m t), h)
    | _ => none
  | _ => none
end
end Wr
set_option Elab.async false
set_option linter.all false
set_option maxRecDepth 100000
set_option maxHeartbeats 4000000
set_option autoImplicit false
namespace Wr
open PySem PySem.Spec PyProof.Rows L2
def thT (n0 : Nat) (live : List Nat) (r : RS) (k : Ds) : RS := match r with
  | .nx s1 h1 => match cleanS n0 live s1 h1 with
    | some (s2, h2) => k s2 h2
    | none => .no
  | .rt v h1 => .rt v h1
  | .bk s1 h1 => .bk s1 h1
  | .ct s1 h1 => .ct s1 h1
  | .ex c s1 h1 => .ex c s1 h1
  | .no => .no
def dSeqT (n0 : Nat) (live : List Nat) (f k : Ds) : Ds := fun s h => thT n0 live (f s h) k
def dBase (b : Nat → Ds) : Ds := fun s h => b h.length s h
def dForT (live : List Nat) (di : Di) (t : Tg) (body : Nat → Ds) : Ds := fun s h => (di s h).bindS s fun it h1 => forC h1.length live it t (body h1.length) (itLen it h1 + 1) 0 s h1
def tSB (g : Gd) (W : WX) (f : Nat → Ds) : TS := fun D σ H => ∃ ρ0 H0 ρ s hp, Sp1 ρ0 H0 ρ H ∧ Rh g ρ H hp ∧ Rsl g ρ H s σ ∧ PoS g ρ0 H0 (f ρ0.length s hp) D W
def SSn (g : Gd) (X : Cx) (W : WX) (n : Nat) (s : Stmt) (f : Nat → Ds) : Prop := Cz g X W n → PS X s (tSB g W f)
def SBn (g : Gd) (X : Cx) (W : WX) (n : Nat) (s : List Stmt) (f : Nat → Ds) : Prop := Cz g X W n → PSs X s (tSB g W f)
section
variable {g : Gd} {X : Cx} {W : WX} {n : Nat} {st : Stmt} {sts : List Stmt} {pos : Pos}
theorem sn_lift {f : Ds} (h : SS g X W n st f) : SSn g X W n st (fun _ => f) := fun C => (h C).imp fun D σ H ⟨ρ0, H0, ρ, s, hp, S, R, L, q⟩ => ⟨ρ, s, hp, R, L, PoS.at q S⟩
theorem b_base {b : Nat → Ds} (h : SBn g X W n sts b) : SB g X W n sts (dBase b) := fun C => (h C).imp fun D σ H ⟨ρ, s, hp, R, L, q⟩ => ⟨ρ, H, ρ, s, hp, .refl _ _, R, L, by rw [R.len]; exact q⟩
theorem bn_one {f : Nat → Ds} (h : SSn g X W n st f) : SBn g X W n [st] f := fun C => pss_one (h C)
theorem bn_nil : SBn g X W n [] (fun _ => dNx) := fun C => (b_nil (g := g) (X := X) (W := W) (n := n) C).imp fun D σ H ⟨ρ0, H0, ρ, s, hp, S, R, L, q⟩ => ⟨ρ, s, hp, R, L, PoS.at q S⟩
theorem bn_cons (live : List Nat) {f k : Nat → Ds} (h : SSn g X W n st f) (h' : SBn g X W n sts k) : SBn g X W n (st :: sts) (fun n0 => dSeqT n0 live (f n0) (k n0)) := by
  intro C
  refine (pss_cons (h C) (h' C)).imp ?_
  rintro D σ H ⟨ρ0, H0, ρ, s, hp, S, R, L, h⟩
  refine ⟨ρ0, H0, ρ, s, hp, S, R, L, ?_⟩
  have h : PoS g ρ0 H0 (thT ρ0.length live (f ρ0.length s hp) (k ρ0.length)) D W := h
  cases q : f ρ0.length s hp with
  | nx s1 h1 =>
    rw [q] at h
    simp only [thT] at h
    cases hc : cleanS ρ0.length live s1 h1 with
    | none => rw [hc] at h; exact h.elim
    | some w =>
      obtain ⟨s2, h2⟩ := w
      rw [hc] at h
      intro ρ1 H1 σ1 S1 R1 L1
      obtain ⟨ρ2, S2, R2, L2⟩ := clean_ok S1 R1 L1 hc
      exact ⟨ρ0, H0, ρ2, s2, h2, S2, R2, L2, h⟩
  | rt v h1 => rw [q] at h; exact h
  | bk s1 h1 => rw [q] at h; exact h
  | ct s1 h1 => rw [q] at h; exact h
  | ex c s1 h1 => rw [q] at h; exact h
  | no => rw [q] at h; exact h
theorem sn_if {c : Expr} {x y : List Stmt} {t : Dt} {f k : Nat → Ds} (hc : ST g X W n c t) (h : SBn g X W n x f) (h' : SBn g X W n y k) : SSn g X W n (.If c x y pos) (fun n0 => dIfS t (f n0) (k n0)) := by
  intro C
  refine (ps_if (hc C) (h C) (h' C)).imp ?_
  rintro D σ H ⟨ρ0, H0, ρ, s, hp, S, R, L, h⟩
  have q := PoS.at h S
  refine ⟨ρ, s, hp, R, L, ?_⟩
  have h : PoS g ρ0 H0 ((t s hp).bindS s fun c h1 => match c with
    | true => f ρ0.length s h1
    | false => k ρ0.length s h1) D W := h
  cases e : t s hp with
  | no => rw [e] at h; exact h
  | ex c h1 => rw [e] at h; exact fun ρ1 H1 S1 R1 => h ρ1 H1 σ (S.trans S1) R1 (L.step R S1)
  | ok b h1 =>
    rw [e] at h
    intro ρ1 H1 S1 R1
    cases b with
    | true => exact ⟨ρ0, H0, ρ1, s, h1, S.trans S1, R1, L.step R S1, h⟩
    | false => exact ⟨ρ0, H0, ρ1, s, h1, S.trans S1, R1, L.step R S1, h⟩
theorem s_forT {tg iter : Expr} (live : List Nat) {b : Bool} {body : List Stmt} {di : Di} {t : Tg} {f : Nat → Ds} (hi : SI g X W (n + 1) b tg iter di) (hg : SG g X b tg t) (hb : SBn g X W (n + 1) body f) (hs : ∀ x, foldedSetIterable iter X.env x = pure x := by intro _; rfl) :
    SS g X W (n + 1) (.For tg iter body [] pos) (dForT live di t f) := by
  intro C
  refine (ps_for C.pass C.calm (hi C) (hg C.K C.calm C.nd) (hb C) hs).imp ?_
  rintro D σ H ⟨ρ, s, hp, R, L, h⟩
  refine ⟨ρ, s, hp, R, L, ?_⟩
  unfold dForT at h
  cases q : di s hp with
  | no => rw [q] at h; exact h
  | ex c h1 => rw [q] at h; exact fun ρ1 H1 S1 R1 => h ρ1 H1 σ S1 R1 (L.step R S1)
  | ok it h1 =>
    rw [q] at h
    intro ρ0 H0 J S0 R0 hJ
    have h' := PoS.at h S0
    simp only [Rs.bindS] at h'
    rw [← R0.len] at h'
    refine ⟨fun i m σ1 H1 => ∃ ρ1 s1 h2, Sp1 ρ0 H0 ρ1 H1 ∧ Rh g ρ1 H1 h2 ∧ Rsl g ρ1 H1 s1 σ1 ∧ PoS g ρ0 H0 (forC ρ0.length live it t (f ρ0.length) m i s1 h2) D W, ⟨itLen it h1 + 1, ρ0, s, h1, .refl _ _, R0, L.step R S0, h'⟩, ?_⟩
    rintro i m σ1 H1 ⟨ρ1, s1, h2, S1, R1, L1, p1⟩
    cases m with
    | zero => exact p1.elim
    | succ m =>
      unfold forC at p1
      cases hc : cleanS ρ0.length live s1 h2 with
      | none => rw [hc] at p1; exact p1.elim
      | some w =>
        obtain ⟨s1', h2'⟩ := w
        rw [hc] at p1
        simp only at p1
        obtain ⟨ρ2, S1', R1', L1'⟩ := clean_ok S1 R1 L1 hc
        clear S1 R1 L1 hc
        split at p1
        · exact p1.elim
        · rename_i hq
          exact .inl ⟨hJ i ρ2 H1 h2' none S1' R1' hq, p1 ρ2 H1 σ1 S1' R1' L1'⟩
        · rename_i v hq
          obtain ⟨hgo, hy⟩ := hJ i ρ2 H1 h2' (some v) S1' R1' hq
          refine .inr ⟨hgo, fun σ' H' => ∃ ρ1 s1 h2, Sp1 ρ0 H0 ρ1 H' ∧ Rh g ρ1 H' h2 ∧ Rsl g ρ1 H' s1 σ' ∧ PoS g ρ0 H0 (forC ρ0.length live it t (f ρ0.length) m (i + 1) s1 h2) D W, fun σ' H' w => ⟨m, Nat.lt_succ_self m, w⟩, fun x H2 hyl => ?_⟩
          obtain ⟨S2, R2, ry⟩ := hy x H2 hyl
          split at p1
          · exact p1.elim
          · rename_i s2 hset
            have SS := S1'.trans S2
            refine ⟨ρ2, s1', h2', v, s2, R2, L1'.step R1' S2, ry, hset, fun σ' L' _ => ⟨ρ0, H0, ρ2, s2, h2', SS, R2, L', ?_⟩⟩
            cases qb : f ρ0.length s2 h2' with
            | nx s3 h3 => rw [qb] at p1; exact fun ρ3 H3 σ3 S3 R3 L3 => ⟨ρ3, s3, h3, S3, R3, L3, p1⟩
            | ct s3 h3 => rw [qb] at p1; exact fun ρ3 H3 σ3 S3 R3 L3 => ⟨ρ3, s3, h3, S3, R3, L3, p1⟩
            | bk s3 h3 => rw [qb] at p1; exact fun ρ3 H3 σ3 S3 R3 L3 => p1 ρ3 H3 σ3 S3 R3 L3
            | rt v h3 => rw [qb] at p1; exact fun ρ3 H3 x3 S3 R3 L3 => p1 ρ3 H3 x3 S3 R3 L3
            | ex c s3 h3 => rw [qb] at p1; exact fun ρ3 H3 x3 S3 R3 L3 => p1 ρ3 H3 x3 S3 R3 L3
            | no => rw [qb] at p1; exact p1
end
end Wr
set_option Elab.async false
set_option linter.all false
set_option maxRecDepth 100000
set_option maxHeartbeats 4000000
set_option autoImplicit false
namespace Wr
open PySem PySem.Spec PyProof.Rows L2
end Wr
set_option Elab.async false
set_option linter.all false
set_option maxRecDepth 100000
set_option maxHeartbeats 4000000
set_option autoImplicit false
namespace Wr
open PySem PySem.Spec PyProof.Rows L2
end Wr
set_option Elab.async false
set_option linter.all false
set_option maxRecDepth 100000
set_option maxHeartbeats 4000000
set_option autoImplicit false
namespace Wr
open PySem PySem.Spec PyProof.Rows L2
mutual
def NI (h : Heap) : NestedKey → Value → Prop
  | .num i, v => ∃ t, v = .int i t
  | .tup ks, v => ∃ a o vs n, v = .ref a ∧ h.get? a = some o ∧ o.cls = .type "tuple" ∧ o.data = .seq vs n ∧ NIs h ks vs.toList
  | .none, _ => False
  | .text _, _ => False
def NIs (h : Heap) : List NestedKey → List Value → Prop
  | [], vs => vs = []
  | k :: ks, vs => ∃ v r, vs = v :: r ∧ NI h k v ∧ NIs h ks r
end
section
variable {h h' : Heap}
mutual
theorem NI.nested : ∀ (k : NestedKey) (v : Value), NI h k v → NestedIs h k v
  | .num i, v, x => by simp only [NI] at x; obtain ⟨t, rfl⟩ := x; exact .int i t
  | .tup ks, v, x => by simp only [NI] at x; obtain ⟨a, o, vs, n, rfl, e, c, d, r⟩ := x; exact .tup e c d (NIs.nested ks _ r)
  | .none, v, x => by simp only [NI] at x
  | .text _, v, x => by simp only [NI] at x
theorem NIs.nested : ∀ (ks : List NestedKey) (vs : List Value), NIs h ks vs → NestedAll h ks vs
  | [], vs, x => by simp only [NIs] at x; subst x; exact .nil
  | k :: ks, vs, x => by simp only [NIs] at x; obtain ⟨v, r, rfl, a, b⟩ := x; exact .cons (NI.nested k v a) (NIs.nested ks r b)
end
mutual
theorem NI.at (hk : ∀ a o vs n, h.get? a = some o → o.data = .seq vs n → o.cls = .type "tuple" → h'.get? a = some o) : ∀ (k : NestedKey) (v : Value), NI h k v → NI h' k v
  | .num i, v, x => by simp only [NI] at x ⊢; exact x
  | .tup ks, v, x => by simp only [NI] at x ⊢; obtain ⟨a, o, vs, n, q, e, c, d, r⟩ := x; exact ⟨a, o, vs, n, q, hk a o vs n e d c, c, d, NIs.at hk ks _ r⟩
  | .none, v, x => by simp only [NI] at x
  | .text _, v, x => by simp only [NI] at x
theorem NIs.at (hk : ∀ a o vs n, h.get? a = some o → o.data = .seq vs n → o.cls = .type "tuple" → h'.get? a = some o) : ∀ (ks : List NestedKey) (vs : List Value), NIs h ks vs → NIs h' ks vs
  | [], vs, x => by simp only [NIs] at x ⊢; exact x
  | k :: ks, vs, x => by simp only [NIs] at x ⊢; obtain ⟨v, r, q, a, b⟩ := x; exact ⟨v, r, q, NI.at hk k v a, NIs.at hk ks r b⟩
end
theorem NIs.length : ∀ (ks : List NestedKey) (vs : List Value), NIs h ks vs → vs.length = ks.length
  | [], vs, x => by simp only [NIs] at x; subst x; rfl
  | k :: ks, vs, x => by simp only [NIs] at x; obtain ⟨v, r, rfl, a, b⟩ := x; simp [NIs.length ks r b]
theorem NIs.get : ∀ (ks : List NestedKey) (vs : List Value), NIs h ks vs → ∀ v ∈ vs, ∃ k ∈ ks, NI h k v
  | [], vs, x, v, hv => by simp only [NIs] at x; subst x; cases hv
  | k :: ks, vs, x, v, hv => by
    simp only [NIs] at x; obtain ⟨u, r, rfl, a, b⟩ := x
    rcases List.mem_cons.mp hv with e | hv
    · exact ⟨k, List.mem_cons_self, e ▸ a⟩
    · obtain ⟨k', h1, h2⟩ := NIs.get ks r b v hv
      exact ⟨k', List.mem_cons_of_mem _ h1, h2⟩
end
section
variable {P : Program} {w : World} {A : Around} {E : Value → Shared → Prop} {s : Shared}
/-- at b stands the tuple k -/
def TK8 (h : Heap) (k : NestedKey) (b : Addr) : Prop := NI h k (.ref b) ∧ k.depth ≤ 8
theorem TK8.inj {h : Heap} {k k' : NestedKey} {b : Addr} (x : TK8 h k b) (y : TK8 h k' b) : k = k' := NestedIs.inj _ _ _ (NI.nested _ _ x.1) (NI.nested _ _ y.1)
abbrev nh (w : World) (k : NestedKey) : Int := k.hash w
end
end Wr
set_option Elab.async false
set_option linter.all false
set_option maxRecDepth 100000
set_option maxHeartbeats 4000000
set_option autoImplicit false
namespace Wr
open PySem PySem.Spec PyProof.Rows L2
section
variable {P : Program} {w : World} {A : Around} {E : Value → Shared → Prop} {s : Shared}
abbrev Ent := Addr × NestedKey
def entR (w : World) (p : Ent) : Int × Value := (nh w p.2, Value.ref p.1)
/-- the set at a holds the entries L, in the order of its table -/
structure SetN (w : World) (h : Heap) (a : Addr) (L : List Ent) (es : Array (Int × Value)) (ep : Nat) (t : SetTable) : Prop where
  ob : ∃ o, h.get? a = some o ∧ o.ExactSet ∧ o.data = .set es ep t
  rows : es.toList = L.map (entR w)
  tab : TabOk t (L.map fun p => nh w p.2)
  nd : (L.map (·.2)).Nodup
  tup : ∀ p ∈ L, TK8 h p.2 p.1
  plain : t.plain = true
  led : w.params.followText "set-order" = true ∨ t.led = true
  room : L.length * 5 < t.mask * 3
  few : L.length < 64
variable {a : Addr} {L : List Ent} {es : Array (Int × Value)} {ep : Nat} {t : SetTable}
theorem SetN.calm (R : SetN w s.heap a L es ep t) : ¬ t.gaveWay = true := by
  unfold SetTable.gaveWay
  rw [mask_odd R.tab.mok]
  decide
theorem TK8.keep {h h' : Heap} {k : NestedKey} {b : Addr} (x : TK8 h k b) (hk : ∀ c o, h.get? c = some o → h'.get? c = some o) : TK8 h' k b :=
  ⟨NI.at (fun c u _ _ e _ _ => hk c u e) _ _ x.1, x.2⟩
end
end Wr
set_option Elab.async false
set_option linter.all false
set_option maxRecDepth 100000
set_option maxHeartbeats 4000000
set_option autoImplicit false
namespace Wr
open PySem PySem.Spec PyProof.Rows L2
/-- what a set has from the first i of ks -/
structure Has (ks : List Ent) (i : Nat) (L : List Ent) : Prop where
  sub : ∀ p ∈ L, p ∈ ks.take i
  all : ∀ p ∈ ks.take i, p.2 ∈ L.map (·.2)
theorem Has.step {ks L L' : List Ent} {i : Nat} {x : Ent} (g : Has ks i L) (h : ks[i]? = some x) (c1 : x.2 ∈ L.map (·.2) → L' = L) (c2 : x.2 ∉ L.map (·.2) → L'.Perm (x :: L)) : Has ks (i + 1) L' := by
  have tk : ks.take (i + 1) = ks.take i ++ [x] := by rw [List.take_succ, h]; rfl
  by_cases c : x.2 ∈ L.map (·.2)
  · rw [c1 c]
    refine ⟨fun p hp => by rw [tk]; exact List.mem_append_left _ (g.sub p hp), fun p hp => ?_⟩
    rw [tk] at hp
    rcases List.mem_append.mp hp with z | z
    · exact g.all p z
    · rw [List.mem_singleton.mp z]; exact c
  · have pm := c2 c
    refine ⟨fun p hp => ?_, fun p hp => ?_⟩
    · rw [tk]
      rcases List.mem_cons.mp (pm.mem_iff.mp hp) with e | z
      · rw [e]; exact List.mem_append_right _ (List.mem_singleton.mpr rfl)
      · exact List.mem_append_left _ (g.sub p z)
    · rw [(pm.map (·.2)).mem_iff, List.map_cons]
      rw [tk] at hp
      rcases List.mem_append.mp hp with z | z
      · exact List.mem_cons_of_mem _ (g.all p z)
      · rw [List.mem_singleton.mp z]; exact List.mem_cons_self
section
variable {P : Program} {w : World} {A : Around} {E : Value → Shared → Prop} {s : Shared}
theorem SetN.keep {h h' : Heap} {a : Addr} {L : List Ent} {es : Array (Int × Value)} {ep : Nat} {t : SetTable} (R : SetN w h a L es ep t) (ha : ∀ o, h.get? a = some o → h'.get? a = some o) (ht : ∀ p ∈ L, TK8 h' p.2 p.1) : SetN w h' a L es ep t := by
  obtain ⟨o, ho, r⟩ := R.ob
  exact { R with ob := ⟨o, ha o ho, r⟩, tup := ht }
end
end Wr
set_option Elab.async false
set_option linter.all false
set_option maxRecDepth 100000
set_option maxHeartbeats 4000000
set_option autoImplicit false
namespace Wr
open PySem PySem.Spec PySem.SeqAt PyProof.Rows L2
/-- all ints d levels down -/
def UD : Nat → NestedKey → Bool
  | 0, .num _ => true
  | d + 1, .tup ks => ks.all (UD d)
  | _, _ => false
theorem UD.tup {d : Nat} {k : NestedKey} (h : UD (d + 1) k = true) : ∃ ks, k = .tup ks ∧ ∀ x ∈ ks, UD d x = true := by
  cases k with
  | tup ks => exact ⟨ks, rfl, fun x hx => by simp only [UD, List.all_eq_true] at h; exact h x hx⟩
  | _ => simp [UD] at h
theorem UD.num {k : NestedKey} (h : UD 0 k = true) : ∃ i, k = .num i := by
  cases k with
  | num i => exact ⟨i, rfl⟩
  | _ => simp [UD] at h
theorem UD.depth : ∀ (d : Nat) (k : NestedKey), UD d k = true → k.depth ≤ d
  | 0, k, h => by obtain ⟨i, rfl⟩ := UD.num h; simp [NestedKey.depth]
  | d + 1, k, h => by
    obtain ⟨ks, rfl, hk⟩ := UD.tup h
    have : NestedKey.depthAll ks ≤ d := by
      clear h
      induction ks with
      | nil => simp [NestedKey.depthAll]
      | cons a ks ih =>
        have h1 := UD.depth d a (hk a List.mem_cons_self)
        have h2 := ih fun x hx => hk x (List.mem_cons_of_mem _ hx)
        simp only [NestedKey.depthAll]; omega
    simp only [NestedKey.depth]; omega
end Wr
set_option Elab.async false
set_option linter.all false
set_option maxRecDepth 100000
set_option maxHeartbeats 4000000
set_option autoImplicit false
namespace Wr
open PySem PySem.Spec PyProof.Rows L2
mutual
def TV (K : PySem.W.Frag) (H : Hp) : NestedKey → V → Prop
  | .num i, v => v = .int i
  | .tup ks, v => ∃ a vs, v = .ref a ∧ SqT K H a vs ∧ TVs K H ks vs
  | .none, _ => False
  | .text _, _ => False
def TVs (K : PySem.W.Frag) (H : Hp) : List NestedKey → List V → Prop
  | [], vs => vs = []
  | k :: ks, vs => ∃ v r, vs = v :: r ∧ TV K H k v ∧ TVs K H ks r
end
section
variable {X : Cx} {pins : List (Addr × Obj)} {σ : L2.St} {H : Hp} {s : Shared}
mutual
theorem inv_ni (I : Inv X pins σ H s) : ∀ (k : NestedKey) (v : V) (u : Value), TV X.K H k v → RelV v u → NI s.heap k u
  | .num i, v, u, h, r => by
    simp only [TV] at h; subst h
    obtain ⟨t, rfl⟩ := r
    simp only [NI]; exact ⟨t, rfl⟩
  | .tup ks, v, u, h, r => by
    simp only [TV] at h
    obtain ⟨a, vs, rfl, q, r2⟩ := h
    cases r
    obtain ⟨its, rv, ⟨o, ho, hc, n, hd⟩, _⟩ := I.tuple q
    simp only [NI]
    exact ⟨a, o, its.toArray, n, rfl, ho, hc, hd, by simpa using inv_nis I ks vs its r2 rv⟩
  | .none, v, u, h, r => by simp only [TV] at h
  | .text _, v, u, h, r => by simp only [TV] at h
theorem inv_nis (I : Inv X pins σ H s) : ∀ (ks : List NestedKey) (vs : List V) (us : List Value), TVs X.K H ks vs → Vals vs us → NIs s.heap ks us
  | [], vs, us, h, r => by
    simp only [TVs] at h; subst h
    cases r
    simp only [NIs]
  | k :: ks, vs, us, h, r => by
    simp only [TVs] at h
    obtain ⟨v, t, rfl, h1, h2⟩ := h
    cases r with
    | cons r1 r2 =>
      simp only [NIs]
      exact ⟨_, _, rfl, inv_ni I k v _ h1 r1, inv_nis I ks t _ h2 r2⟩
end
end
end Wr
set_option Elab.async false
set_option linter.all false
set_option maxRecDepth 100000
set_option maxHeartbeats 4000000
set_option autoImplicit false
namespace Wr
open PySem PySem.Spec PyProof.Rows L2
end Wr
set_option Elab.async false
set_option linter.all false
set_option maxRecDepth 100000
set_option maxHeartbeats 4000000
set_option autoImplicit false
namespace Wr
open PySem PySem.Spec PyProof.Rows L2
end Wr
set_option Elab.async false
set_option linter.all false
set_option maxRecDepth 100000
set_option maxHeartbeats 4000000
set_option autoImplicit false
namespace Wr
open PySem PySem.Spec PyProof.Rows L2
mutual
def sameV : Va → Va → Bool
  | .non, y => match y with | .non => true | _ => false
  | .bl a, y => match y with | .bl b => decide (a = b) | _ => false
  | .int a, y => match y with | .int b => decide (a = b) | _ => false
  | .str a, y => match y with | .str b => decide (a = b) | _ => false
  | .ty a, y => match y with | .ty b => decide (a = b) | _ => false
  | .gl a, y => match y with | .gl b => decide (a = b) | _ => false
  | .scr, y => match y with | .scr => true | _ => false
  | .exc a, y => match y with | .exc b => decide (a = b) | _ => false
  | .ref a, y => match y with | .ref b => decide (a = b) | _ => false
  | .tup a, y => match y with | .tup b => sameVs a b | _ => false
def sameVs : List Va → List Va → Bool
  | [], y => match y with | [] => true | _ :: _ => false
  | a :: as, y => match y with | [] => false | b :: bs => sameV a b && sameVs as bs
end
mutual
theorem sameV_refl : ∀ a : Va, sameV a a = true
  | .non => rfl
  | .bl a => by simp [sameV]
  | .int a => by simp [sameV]
  | .str a => by simp [sameV]
  | .ty a => by simp [sameV]
  | .gl a => by simp [sameV]
  | .scr => rfl
  | .exc a => by simp [sameV]
  | .ref a => by simp [sameV]
  | .tup a => by simp only [sameV]; exact sameVs_refl a
theorem sameVs_refl : ∀ a : List Va, sameVs a a = true
  | [] => rfl
  | a :: as => by simp only [sameVs, sameV_refl a, sameVs_refl as]; rfl
end
mutual
theorem sameV_eq : ∀ a b : Va, sameV a b = true → a = b
  | .non, y, h => by cases y <;> simp [sameV] at h; rfl
  | .bl a, y, h => by cases y <;> simp [sameV] at h; rw [h]
  | .int a, y, h => by cases y <;> simp [sameV] at h; rw [h]
  | .str a, y, h => by cases y <;> simp [sameV] at h; rw [h]
  | .ty a, y, h => by cases y <;> simp [sameV] at h; rw [h]
  | .gl a, y, h => by cases y <;> simp [sameV] at h; rw [h]
  | .scr, y, h => by cases y <;> simp [sameV] at h; rfl
  | .exc a, y, h => by cases y <;> simp [sameV] at h; rw [h]
  | .ref a, y, h => by cases y <;> simp [sameV] at h; rw [h]
  | .tup a, y, h => by
    cases y with
    | tup b => simp only [sameV] at h; rw [sameVs_eq a b h]
    | _ => simp [sameV] at h
theorem sameVs_eq : ∀ a b : List Va, sameVs a b = true → a = b
  | [], y, h => by cases y <;> simp [sameVs] at h; rfl
  | a :: as, y, h => by
    cases y with
    | nil => simp [sameVs] at h
    | cons b bs =>
      simp only [sameVs, Bool.and_eq_true] at h
      rw [sameV_eq a b h.1, sameVs_eq as bs h.2]
end
instance : DecidableEq Va := fun a b => if h : sameV a b = true then .isTrue (sameV_eq a b h) else .isFalse fun e => h (e ▸ sameV_refl a)
def sameO (a b : Ob) : Bool := match a with
  | .lst x => match b with | .lst y => decide (x = y) | _ => false
  | .dK x => match b with | .dK y => decide (x = y) | _ => false
  | .dT x => match b with | .dT y => decide (x = y) | _ => false
  | .dU x => match b with | .dU y => decide (x = y) | _ => false
  | .dF x => match b with | .dF y => decide (x = y) | _ => false
  | .ins c x => match b with | .ins d y => decide (c = d) && decide (x = y) | _ => false
theorem sameO_iff (a b : Ob) : sameO a b = true ↔ a = b := by
  constructor
  · intro h
    cases a <;> cases b <;> simp [sameO] at h <;> simp [h]
  · intro e
    subst e
    cases a <;> simp [sameO]
instance : DecidableEq Ob := fun a b => decidable_of_iff _ (sameO_iff a b)
def sameR {α : Type} [DecidableEq α] (a b : Rs α) : Bool := match a with
  | .ok x h => match b with | .ok y k => decide (x = y) && decide (h = k) | _ => false
  | .ex c h => match b with | .ex d k => decide (c = d) && decide (h = k) | _ => false
  | .no => match b with | .no => true | _ => false
theorem sameR_iff {α : Type} [DecidableEq α] (a b : Rs α) : sameR a b = true ↔ a = b := by
  constructor
  · intro h
    cases a <;> cases b <;> simp [sameR] at h <;> simp [h]
  · intro e
    subst e
    cases a <;> simp [sameR]
instance {α : Type} [DecidableEq α] : DecidableEq (Rs α) := fun a b => decidable_of_iff _ (sameR_iff a b)
def sameS (a b : RS) : Bool := match a with
  | .nx x h => match b with | .nx y k => decide (x = y) && decide (h = k) | _ => false
  | .rt x h => match b with | .rt y k => decide (x = y) && decide (h = k) | _ => false
  | .bk x h => match b with | .bk y k => decide (x = y) && decide (h = k) | _ => false
  | .ct x h => match b with | .ct y k => decide (x = y) && decide (h = k) | _ => false
  | .ex c x h => match b with | .ex d y k => decide (c = d) && (decide (x = y) && decide (h = k)) | _ => false
  | .no => match b with | .no => true | _ => false
theorem sameS_iff (a b : RS) : sameS a b = true ↔ a = b := by
  constructor
  · intro h
    cases a <;> cases b <;> simp [sameS] at h <;> simp [h]
  · intro e
    subst e
    cases a <;> simp [sameS]
instance : DecidableEq RS := fun a b => decidable_of_iff _ (sameS_iff a b)
/-- a statement that goes on, and what tidying leaves of it -/
def nxT (n0 : Nat) (live : List Nat) (r : RS) (s : Sg) (h : Hs) : Bool := match r with
  | .nx s1 h1 => decide (cleanS n0 live s1 h1 = some (s, h))
  | _ => false
theorem nxT_is {n0 : Nat} {live : List Nat} {r : RS} {s : Sg} {h : Hs} (e : nxT n0 live r s h = true) : ∃ s1 h1, r = .nx s1 h1 ∧ cleanS n0 live s1 h1 = some (s, h) := by
  unfold nxT at e
  split at e
  · exact ⟨_, _, rfl, of_decide_eq_true e⟩
  · cases e
end Wr
set_option Elab.async false
set_option linter.all false
set_option maxRecDepth 100000
set_option maxHeartbeats 4000000
set_option autoImplicit false
namespace Wr
open PySem PySem.Spec PyProof.Rows L2
end Wr
set_option Elab.async false
set_option linter.all false
set_option maxRecDepth 100000
set_option maxHeartbeats 4000000
set_option autoImplicit false
namespace Wr
open PySem PySem.Spec PyProof.Rows L2
def clsNm : Nat → Str
  | 0 => "WishError"
  | 1 => "NoBook"
  | 2 => "NoRule"
  | 3 => "NoPromise"
  | 4 => "NoThing"
  | 5 => "NoRanking"
  | 6 => "NoText"
  | 7 => "NoBack"
  | _ => "Poll"
def clsG (K : PySem.W.Frag) (n : Nat) : Addr := He.ga K (clsNm n)
/-- whether c stands under d -/
def subC (c d : Nat) : Bool := d == c || d == 0
abbrev vErr : List Value := [.type "ValueError", .type "Exception", .type "BaseException", .type "object"]
def excCB (K : PySem.W.Frag) (D : Addr) : Bool :=
  (PySem.W.findIn K (.ref D) "__getattribute__" == some (some (.builtin "BaseException.__getattribute__"))) && ((PySem.W.findIn K (.ref D) "__getattr__" == some none) && ((PySem.W.subIn K (.ref D) (.type "BaseException") == some true) && (PySem.W.hasDictIn K D &&
  ((PySem.W.findIn K (.ref D) "__class__" == some (some (.builtin "object.__class__"))) && ((PySem.W.specialIn K (.builtin "object.__class__") "__get__" == some (some (.builtin "getset_descriptor.__get__"))) && ((PySem.W.takesIn K (.builtin "object.__class__") == some true) && (PySem.W.mroIn K D (.type "object") == some true)))))))
theorem excCB_ok {K : PySem.W.Frag} {D : Addr} (h : excCB K D = true) : ExcC K D := by
  unfold excCB at h
  simp only [Bool.and_eq_true, beq_iff_eq] at h
  obtain ⟨h1, h2, h3, h4, h5, h6, h7, h8⟩ := h
  exact ⟨h1, h2, h3, h4, h5, h6, h7, h8⟩
def exnB1 (K : PySem.W.Frag) (cl : List Nat) (c : Nat) : Bool :=
  (PySem.W.nsIn K mainGlobals (clsNm c) == some (some (.ref (clsG K c)))) && (PySem.W.excIn K (clsG K c) vErr "ValueError.__new__" && (PySem.W.keepIn K (.ref (clsG K c)) && ((PySem.W.subIn K (.ref (clsG K c)) (.type "BaseException") == some true) && ((PySem.W.typeIn K (.ref (clsG K c)) == some (.type "type")) && (excCB K (clsG K c) &&
  ((PySem.W.kitOne K (.ref (clsG K c)) (.type "ValueError") == some true) && cl.all fun d => (PySem.W.exmOne K (.ref (clsG K c)) (.ref (clsG K d)) == some (subC c d)) && (PySem.W.kitOne K (.ref (clsG K c)) (.ref (clsG K d)) == some (subC c d))))))))
def exnB (K : PySem.W.Frag) (cl : List Nat) : Bool := cl.all (exnB1 K cl)
structure Exn (g : Gd) (mg : Str → Option Value) (cl : List Nat) : Prop where
  mg : ∀ c ∈ cl, mg (clsNm c) = some (.ref (g.G c))
  own : ∀ c ∈ cl, PySem.W.excIn g.K (g.G c) vErr "ValueError.__new__" = true
  kp : ∀ c ∈ cl, PySem.W.keepIn g.K (.ref (g.G c)) = true
  sub : ∀ c ∈ cl, PySem.W.subIn g.K (.ref (g.G c)) (.type "BaseException") = some true
  ty : ∀ c ∈ cl, PySem.W.typeIn g.K (.ref (g.G c)) = some (.type "type")
  exc : ∀ c ∈ cl, ExcC g.K (g.G c)
  val : ∀ c ∈ cl, PySem.W.kitOne g.K (.ref (g.G c)) (.type "ValueError") = some true
  exm : ∀ c ∈ cl, ∀ d ∈ cl, PySem.W.exmOne g.K (.ref (g.G c)) (.ref (g.G d)) = some (subC c d)
  kit : ∀ c ∈ cl, ∀ d ∈ cl, PySem.W.kitOne g.K (.ref (g.G c)) (.ref (g.G d)) = some (subC c d)
theorem exnB_ok {g : Gd} {h : Heap} {mg : Str → Option Value} {cl : List Nat} (X : g.K.In h) (G : h.Ns mainGlobals mg) (hG : g.G = clsG g.K) (e : exnB g.K cl = true) : Exn g mg cl := by
  unfold exnB at e
  rw [List.all_eq_true] at e
  have at_ : ∀ c ∈ cl, _ := fun c hc => by
    have z := e c hc
    unfold exnB1 at z
    simp only [Bool.and_eq_true, beq_iff_eq, List.all_eq_true] at z
    exact z
  refine ⟨fun c hc => ?_, fun c hc => ?_, fun c hc => ?_, fun c hc => ?_, fun c hc => ?_, fun c hc => ?_, fun c hc => ?_, fun c hc d hd => ?_, fun c hc d hd => ?_⟩ <;> rw [hG] <;> obtain ⟨h1, h2, h3, h4, h5, h6, h7, h8⟩ := at_ c hc
  · exact PySem.W.mg_of X G h1
  · exact h2
  · exact h3
  · exact h4
  · exact h5
  · exact excCB_ok h6
  · exact h7
  · exact (h8 d hd).1
  · exact (h8 d hd).2
section
variable {g : Gd} {X : Cx} {W : WX} {n : Nat} {pos p p2 pos2 : Pos} {cl : List Nat}
def dRaise (c : Nat) : Ds := fun s h => .ex c s h
theorem s_raise (c : Nat) {x m : Str} {j : Nat} (E : Exn g X.mg cl) (hc : c ∈ cl := by decide) (hcl : c < 100 := by decide) (hx : clsNm c = x := by rfl) (hg : Gl X x := by rfl) (hdb : (x == ("__debug__" : Str)) = false := by decide) :
    SS g X W (n + 1) (.Raise (some (.Call (.Name x p) [.Constant (.str m) j p2] [] pos)) none pos2) (dRaise c) := by
  intro C
  subst hx
  refine (L2N.ps_raise C.calm C.tk.1 (L2N.pmk_own (F := PySem.F.excBase_ValueError) (C := g.G c) (by rw [C.K]; exact E.own c hc) (E.mg c hc) (by rw [C.K]; exact E.kp c hc) (raises_own (by rw [C.K]; exact E.sub c hc) (by rw [C.K]; exact E.ty c hc)) hg hdb)).imp ?_
  rintro D σ H ⟨ρ, s, hp, R, L, h⟩
  have h2 := h ρ H σ (.refl _ _) R L
  rw [Nat.mod_eq_of_lt hcl] at h2
  unfold dty at h2
  rw [if_pos hcl] at h2
  exact ⟨rfl, h2⟩
end
section
variable {g : Gd}
def rIsX (g : Gd) (cl : List Nat) : List V → Hp → VK → Prop := fun xs H Q => ∃ (a : Addr) (oe : Obj) (c : Nat) (t : V) (cv : Value) (b : Bool), c ∈ cl ∧ xs = [.ref a, t] ∧ (H a = some (.frz oe exF) ∨ g.hot = some (a, oe)) ∧ oe.cls = .ref (g.G c) ∧ oe.dict = none ∧ (∃ vs, oe.data = .fields vs) ∧ (∀ u, RelV t u → u = cv) ∧ PySem.W.kitOne g.K (.ref (g.G c)) cv = some b ∧ Q (.bl b) H
theorem call_isX {mg : Str → Option Value} {cl : List Nat} (E : Exn g mg cl) {X : Cx} (hK : X.K = g.K) (hh : ∀ p, g.hot = some p → p ∈ X.pn) : CallR X (.builtin "isinstance") (rIsX g cl) := by
  intro pins s σ H xs us Q I r h
  obtain ⟨a, oe, c, t, cv, b, hc, rfl, ha, h1, h2, ⟨vs, hv⟩, hcv, e, q⟩ := h
  cases r with
  | cons rx rr =>
    cases rr with
    | cons rt rr =>
      cases rr
      cases rx
      have ec := hcv _ rt
      subst ec
      have hget : s.heap.get? a = some oe := ha.elim (fun ha => (I.hok a _ ha).1) fun ha => (I.pin (a, oe) (List.mem_append_left _ (hh _ ha))).1
      have J : PySem.W.InstAt s.heap a oe (g.G c) none := by
        obtain ⟨oc, od, oda, osl⟩ := oe
        dsimp only at h1 h2 hv
        subst h1 h2 hv
        exact ⟨hget, rfl, rfl, trivial⟩
      have C := E.exc c hc
      rw [← hK] at C e
      exact PySem.W.kia_one (PySem.W.handS_kitx_exc C.hg C.hk C.hs C.hd C.ha C.hn C.ht C.hm) I.kIn J e (fun z => nomatch z) fun tk => ⟨.bl b, H, I.kept (t' := tk) fun _ _ z => z, rfl, q⟩
def kIsX (cl : List Nat) : K1 := fun xs h => match xs with
  | [.exc c, .gl d] => if cl.contains c && cl.contains d then some (.bl (subC c d), h) else none
  | [.exc c, .ty t] => if cl.contains c && decide (t = "ValueError") then some (.bl true, h) else none
  | _ => none
theorem p_isX {mg : Str → Option Value} {cl : List Nat} (E : Exn g mg cl) : PC1 g (rIsX g cl) (kIsX cl) := by
  intro ρ H hp xs vs v h' Q R r e q
  unfold kIsX at e
  split at e
  · rename_i c d
    split at e
    · rename_i hcd
      cases e
      simp only [Bool.and_eq_true, List.contains_iff_mem] at hcd
      obtain ⟨v1, v2, rfl, r1, r2⟩ := r.inv2
      simp only [Rv] at r1 r2
      obtain ⟨a, oe, rfl, ha, h1, h2, h3⟩ := r1
      subst r2
      exact ⟨a, oe, c, _, .ref (g.G d), _, hcd.1, rfl, ha, h1, h2, h3, fun u z => by cases z; rfl, E.kit c hcd.1 d hcd.2, q ρ H _ (.refl _ _) R mk_bl⟩
    · cases e
  · rename_i c t
    split at e
    · rename_i hcd
      cases e
      simp only [Bool.and_eq_true, List.contains_iff_mem, decide_eq_true_eq] at hcd
      obtain ⟨v1, v2, rfl, r1, r2⟩ := r.inv2
      simp only [Rv] at r1 r2
      obtain ⟨a, oe, rfl, ha, h1, h2, h3⟩ := r1
      subst r2
      refine ⟨a, oe, c, _, .type t, _, hcd.1, rfl, ha, h1, h2, h3, fun u z => by cases z; rfl, ?_, q ρ H _ (.refl _ _) R mk_bl⟩
      rw [hcd.2]
      exact E.val c hcd.1
    · cases e
  · cases e
/-- a class of the program's own, named -/
theorem e_cls {X : Cx} {W : WX} {n : Nat} {cl : List Nat} (c : Nat) {x : Str} {pos : Pos} (E : Exn g X.mg cl) (hc : c ∈ cl := by decide) (hx : clsNm c = x := by rfl) (hg : Gl X x := by rfl) (hd : (x == ("__debug__" : Str)) = false := by decide) : SE g X W n (.Name x pos) (dC (.gl c)) := by
  subst hx
  exact e_glob (y := .ref (g.G c)) (E.mg c hc) rfl (fun _ _ => by simp only [Rv]) hg hd
end
section
variable {X : Cx} {g : Gd}
def rCountD (K : PySem.W.Frag) : V → List V → Hp → VK → Prop := fun x xs H Q => ∃ (a : Addr) (y : V) (d : PyData) (ds : List PyData), x = V.ref a ∧ xs = [y] ∧ Dp K H (V.ref a) (.list ds) ∧ Dp K H y d ∧
  SeqAt.shaped (.list ds) = true ∧ SeqAt.shaped d = true ∧ Q (.int ((ds.countP fun z => PyData.eqv z d : Nat) : Int)) H
theorem mt_countD (hu : X.A.units + 65 < cLine) : MtR X "list.count" (rCountD X.K) := by
  intro pins s σ H x xs v us Q I rx rxs h
  obtain ⟨a, y, d, ds, rfl, rfl, hl, hy, sl, sd, q⟩ := h
  cases rx
  cases rxs with
  | cons ry rt =>
    rename_i uy ut
    cases rt
    obtain ⟨bs, r1⟩ := Dp.reads I d y uy hy ry
    have hxs : PyData.canLayAll0 ds = true := SeqAt.canLay_of_shaped sl
    have hroom : X.A.units + 1 + min (PyData.depthAll ds) d.depth < cLine := room_in_shaped sd hu
    cases hl with
    | lst hs ha =>
      obtain ⟨its, rv, ⟨⟨cls, dd, data, sls⟩, n, ho, hc, hdn, hdt⟩, hlen⟩ := I.list hs
      simp only at hc hdt
      subst hc hdt
      obtain ⟨as, h4⟩ := Dp.readsAll I ds _ its ha rv
      have hmap : its.map (SeqAt.readOf s.heap) = ds := SeqAt.readsAll_map ds its as hxs h4
      refine call_meets PySem.F.slot_list_count ⟨_, ho, rfl⟩ PySem.F.entry_list_count (PySem.F.args_list_count_2 _ _)
        (SeqAt.list_countAt a its.toArray n dd sls uy (fun u => PyData.eqv (SeqAt.readOf s.heap u) d)) ⟨ho, SeqAt.items_eqAt (vs := its.toArray) (show ReadsAll s.heap its.toArray.toList ds as from h4) r1 hxs (SeqAt.canLay_of_shaped sd) hroom, ?_⟩
      have ec : its.toArray.toList.countP (fun u => PyData.eqv (SeqAt.readOf s.heap u) d) = ds.countP fun z => PyData.eqv z d := by
        rw [← hmap, List.countP_map]; rfl
      refine ⟨.int ((ds.countP fun z => PyData.eqv z d : Nat) : Int), H, I.tok _, ⟨s.toks, ?_⟩, q⟩
      rw [ec]
def kCount : KM := fun x xs h => match x with
  | .ref _ => match xs with
    | [y] => match toD h 9 y with
      | some d => match toD h 9 x with
        | some (.list ds) => some (.int ((ds.countP fun z => PyData.eqv z d : Nat) : Int), h)
        | _ => none
      | none => none
    | _ => none
  | _ => none
theorem m_count : MtC g "list.count" (rCountD g.K) := fun X hK hu => hK ▸ mt_countD (by omega)
theorem pm_count : PM1 g (rCountD g.K) kCount := by
  intro ρ H hp x vx xs vs v h' Q R rx r e q
  unfold kCount at e
  split at e
  · rename_i i
    have rx' := rx
    simp only [Rv] at rx'
    obtain ⟨a, ha, rfl⟩ := rx'
    split at e
    · split at e
      · rename_i d hd
        obtain ⟨w, rfl, rw'⟩ := r.inv1
        split at e
        · rename_i ds hds
          cases e
          exact ⟨a, w, d, ds, rfl, rfl, toD_dp R 9 _ _ _ rx hds, toD_dp R 9 _ w d rw' hd, toD_shaped hds, toD_shaped hd, q ρ H _ (.refl _ _) R mk_int⟩
        · cases e
      · cases e
    · cases e
  · cases e
theorem e_count {W : WX} {n : Nat} {o e : Expr} {apos cpos : Pos} {fo : De} {fa : Da} (ho : SE g X W n o fo) (ha : SA g X W n [e] fa) (M : MForm X o "count" e [] apos cpos := by exact ⟨rfl, rfl, rfl, rfl, rfl⟩) :
    SE g X W n (.Call (.Attribute o "count" apos) [e] [] cpos) (dM "list" kCount fo fa) :=
  e_meth PySem.F.plainAttrs_list PySem.F.slot_list_count PySem.F.type_list_count m_count pm_count ho ha M
end
end Wr
set_option Elab.async false
set_option linter.all false
set_option maxRecDepth 100000
set_option maxHeartbeats 4000000
set_option autoImplicit false
namespace Wr
open PySem PySem.Spec PyProof.Rows L2
def rRepF (K : PySem.W.Frag) : R2 := fun x y H Q => ∃ l k v0, x = .ref l ∧ y = .int k ∧ SqT K H l [v0] ∧ 2 ≤ k ∧ k ≤ 100 ∧ NewT H (List.replicate k.toNat [v0]).flatten Q
theorem op_repF {X : Cx} : OpR X (binaryOp .Mult) (rRepF X.K) := by
  intro pins s σ H x y v u Q I rx ry h
  obtain ⟨l, k, v0, rfl, rfl, hT, h1, h2, q⟩ := h
  cases rx
  obtain ⟨t, rfl⟩ := ry
  obtain ⟨its, r, ⟨ob, ho, hc, m, hd⟩, hs⟩ := I.tuple hT
  obtain ⟨cls, dd, data, sl⟩ := ob
  simp only at hc hd
  subst hc hd
  obtain ⟨w, rfl, _⟩ : ∃ w, its = [w] ∧ True := by
    have hl := r.length
    match its, hl with
    | [w], _ => exact ⟨w, rfl, trivial⟩
  have big : (List.replicate k.toNat [w]).flatten.length ≤ sizeLine := by
    rw [PyProof.Rows.lm_len_rep_flat, sizeLine_eq, List.length_singleton]
    omega
  have g0 : (decide (k < -(2 ^ 63)) || decide (k ≥ 2 ^ 63)) = false := by
    rw [decide_eq_false (show ¬ k < -(2 ^ 63) by omega), decide_eq_false (show ¬ k ≥ 2 ^ 63 by omega)]; rfl
  have g1 : (([w] : List Value).toArray.isEmpty || k == 1) = false := by
    rw [show ([w] : List Value).toArray.isEmpty = false from rfl, Bool.false_or]
    exact beq_eq_false_iff_ne.mpr (show k ≠ 1 by omega)
  have g2 : (decide (k ≤ 0) || ([w] : List Value).toArray.isEmpty) = false := by
    rw [show ([w] : List Value).toArray.isEmpty = false from rfl, Bool.or_false]
    exact decide_eq_false (show ¬ k ≤ 0 by omega)
  have sz : (([w] : List Value).toArray.size : Int) * k = k := by
    rw [show ([w] : List Value).toArray.size = 1 from rfl]; omega
  have g4 : Builtin.Tuple.tupleTooMany (((([w] : List Value).toArray.size : Nat) : Int) * k) = false := by
    rw [sz]
    unfold Builtin.Tuple.tupleTooMany
    rw [sizeLine_eq]
    exact decide_eq_false (by omega)
  have mul := tuple_mulW l ([w] : List Value).toArray m dd sl k t g0 g1 g2 (by rw [sz]; omega) g4 (by rw [size_rep, List.size_toArray]; exact big)
  have slot := fun (s' : Shared) => typeIs_int s' k t
  refine wpAny_binaryOp_repeat_ref (T := "tuple") (U := "int") (by decide) ⟨_, ho, rfl⟩ slot noFill_tuple_mul F.fills_int_mul F.slot_int_rmul repeat_tuple F.slot_int_index.lookup ?_
  refine call_meets F.slot_int_rmul (slot s) F.entry_int_rmul (F.args_int_rmul_2 _ _) (int_rmul_tuple k t l ([w] : List Value).toArray m dd sl) ⟨ho, rfl, ⟨_, ho, rfl⟩, ?_⟩
  refine call_meets F.slot_tuple_mul ⟨_, ho, rfl⟩ F.entry_tuple_mul (F.args_tuple_mul_2 _ _) mul ⟨ho, ?_⟩
  rw [size_rep]
  exact EP.newN (t' := s.toks) I (fun b ob e => Heap.get?_push_of_some _ e) (Nat.le_refl _) (Heap.get?_push_size _ rfl) (r.rep k.toNat) (by rw [PyProof.Rows.lm_len_rep_flat, sizeLine_eq, List.length_singleton]; omega) q
section
variable {g : Gd}
def kRepT : K2 := fun x y h => match x, y with
  | .tup [v], .int k => if decide (2 ≤ k) && decide (k ≤ 100) then some (.tup (List.replicate k.toNat v), h) else none
  | _, _ => none
theorem o_repT : ∀ X : Cx, X.K = g.K → OpR X (binaryOp .Mult) (rRepF g.K) := fun X hK => hK ▸ op_repF
theorem rep_flat {α : Type} (v : α) : ∀ k : Nat, (List.replicate k [v]).flatten = List.replicate k v
  | 0 => rfl
  | k + 1 => by rw [List.replicate_succ, List.flatten_cons, rep_flat v k, List.replicate_succ]; rfl
theorem Rvs.repl {ρ : List Addr} {H : Hp} {x : Va} {v : V} (h : Rv g ρ H x v) : ∀ k : Nat, Rvs g ρ H (List.replicate k x) (List.replicate k v)
  | 0 => Rvs.nil
  | k + 1 => by rw [List.replicate_succ, List.replicate_succ]; exact Rvs.cons h (Rvs.repl h k)
theorem p_repT : P2 g (rRepF g.K) kRepT := by
  intro ρ H hp x y vx vy v h' Q R rx ry e q
  unfold kRepT at e
  split at e
  · rename_i v0 k
    by_cases hz : (decide (2 ≤ k) && decide (k ≤ 100)) = true
    · rw [if_pos hz] at e
      cases e
      simp only [Bool.and_eq_true, decide_eq_true_eq] at hz
      simp only [Rv] at rx
      obtain ⟨a, vs, rfl, ht, rv⟩ := rx
      obtain ⟨w, rfl, rw'⟩ := rv.inv1
      refine ⟨a, k, w, rfl, rv_int ry, ht.sqT, hz.1, hz.2, fun p us hn => ?_⟩
      rw [rep_flat]
      obtain ⟨S3, R3, r3⟩ := new_tup (us := us) R hn (Rvs.repl rw' k.toNat)
      exact q _ _ _ S3 R3 r3
    · rw [if_neg hz] at e; cases e
  · cases e
end
end Wr
set_option Elab.async false
set_option linter.all false
set_option maxRecDepth 100000
set_option maxHeartbeats 4000000
set_option autoImplicit false
namespace Wr
open PySem PySem.Spec PyProof.Rows L2
mutual
theorem TN.tv {K : PySem.W.Frag} {H : Hp} : ∀ (k : NestedKey) (v : V), TN K H k v → TV K H k v
  | .num i, v, h => by simpa only [TN, TV] using h
  | .tup ks, v, h => by
    simp only [TN] at h
    simp only [TV]
    obtain ⟨a, vs, e, q, r⟩ := h
    exact ⟨a, vs, e, q.sqT, TNs.tvs ks vs r⟩
  | .none, v, h => by simp only [TN] at h
  | .text _, v, h => by simp only [TN] at h
theorem TNs.tvs {K : PySem.W.Frag} {H : Hp} : ∀ (ks : List NestedKey) (vs : List V), TNs K H ks vs → TVs K H ks vs
  | [], vs, h => by simpa only [TNs, TVs] using h
  | k :: ks, vs, h => by
    simp only [TNs] at h
    simp only [TVs]
    obtain ⟨v, r, e, q, s⟩ := h
    exact ⟨v, r, e, TN.tv k v q, TNs.tvs ks r s⟩
end
section
variable {X : Cx} {pins : List (Addr × Obj)} {σ : L2.St} {H : Hp} {s : Shared}
theorem TN.key (I : Inv X pins σ H s) {b : Addr} {k : NestedKey} (h : TN X.K H k (.ref b)) (hd : k.depth ≤ 8) : (nestedKind X.prog X.w).is s.heap k b :=
  ⟨NI.nested _ _ (inv_ni I k _ _ (TN.tv _ _ h) rfl), hd⟩
theorem KUn.val {K : PySem.W.Frag} {kvs : List (NestedKey × V)} {xs : List (NestedKey × Addr × Value)} (r : KUn K H kvs xs) (k : NestedKey) : RelO (valV kvs k) ((atKey xs k).map (·.2)) := by
  induction r with
  | nil => exact True.intro
  | @cons p q ps qs h t ih =>
    obtain ⟨h1, _, h2⟩ := h
    by_cases e : p.1 = k
    · have b : atKey (q :: qs) k = some q.2 := by simp [atKey, List.find?_cons, h1.symm.trans e]
      rw [valV_pos e, b]; exact h2
    · have b : atKey (q :: qs) k = atKey qs k := by simp [atKey, List.find?_cons, show ¬ q.1 = k from fun z => e (h1.trans z)]
      rw [valV_neg e, b]; exact ih
theorem KUn.repl {K : PySem.W.Frag} {kvs : List (NestedKey × V)} {xs : List (NestedKey × Addr × Value)} (r : KUn K H kvs xs) (k : NestedKey) {y : V} {u : Value} (ry : RelV y u) :
    KUn K H (kvs.map fun kv => if kv.1 = k then (kv.1, y) else kv) (xs.map (putAt k u)) := by
  induction r with
  | nil => exact .nil
  | @cons p q ps qs h t ih =>
    rw [List.map_cons, List.map_cons]
    refine .cons ?_ ih
    obtain ⟨h1, h2, h3⟩ := h
    unfold putAt
    by_cases e : p.1 = k
    · rw [if_pos e, if_pos (h1.symm.trans e)]; exact ⟨h1, h2, ry⟩
    · rw [if_neg e, if_neg (fun z => e (h1.trans z))]; exact ⟨h1, h2, h3⟩
theorem KUn.put {K : PySem.W.Frag} {kvs : List (NestedKey × V)} {xs : List (NestedKey × Addr × Value)} (r : KUn K H kvs xs) (k : NestedKey) {b : Addr} {y : V} {u : Value} (hb : TN K H k (.ref b)) (ry : RelV y u) :
    KUn K H (putK kvs k y) (storedH xs k b u) := by
  have e : (kvs.any fun kv => decide (kv.1 = k)) = (atKey xs k).isSome := by
    rw [valV_any, (KUn.val r k).isSome_eq, Option.isSome_map]
  unfold putK storedH
  rw [e]
  by_cases q : (atKey xs k).isSome = true
  · rw [if_pos q, if_pos q]; exact KUn.repl r k ry
  · rw [if_neg q, if_neg q]; exact Paired.snoc r ⟨rfl, hb, ry⟩
theorem DuX.dict (I : Inv X pins σ H s) {a : Addr} {xs : List (NestedKey × Addr × Value)} {ws : List (NestedKey × V)} (h1 : H a = some (DUo a xs)) (h2 : KUn X.K H ws xs) (h3 : (xs.map (·.1)).Nodup) (h4 : ∀ q ∈ xs, numK q.1 = true ∧ q.1.depth ≤ 8) : s.heap.DictOfH (nestedKind X.prog X.w) a xs := by
  obtain ⟨⟨o, es, ep, e1, e2, e3, e4⟩, _⟩ := (show ObjOk X.prog X.w H s.heap a (DUo a xs) from I.hok a _ h1)
  refine ⟨o, es, ep, e1, e2, e3, e4 _ _, ?_, h3⟩
  have all : ∀ {l : List (NestedKey × V)} {m : List (NestedKey × Addr × Value)}, KUn X.K H l m → (∀ q ∈ m, numK q.1 = true ∧ q.1.depth ≤ 8) → ∀ x ∈ m, (nestedKind X.prog X.w).is s.heap x.1 x.2.1 := by
    intro l m q
    induction q with
    | nil => intro _ x hx; exact nomatch hx
    | @cons p q ps qs hq t ih =>
      intro h4 x hx
      rcases List.mem_cons.mp hx with e | hx
      · subst e
        exact TN.key I (by rw [← hq.1]; exact hq.2.1) (h4 _ List.mem_cons_self).2
      · exact ih (fun q z => h4 q (List.mem_cons_of_mem _ z)) x hx
  exact all h2 h4
end
end Wr
set_option Elab.async false
set_option linter.all false
set_option maxRecDepth 100000
set_option maxHeartbeats 4000000
set_option autoImplicit false
namespace Pg
open PySem PySem.Spec PyProof.Rows L2 Wr
def c_DEEPEST : Va := (.int 3)
def c_GREATEST : Va := (.int 99)
def c_MOST_POINTS : Va := (.int 9)
def c_NAMES : Va := (.str (Str.mk #[97, 98, 99]))
def c_PROMISES : Va := (.tup [(.str (Str.mk #[110, 97, 109, 101, 115])), (.str (Str.mk #[97, 108, 108])), (.str (Str.mk #[108, 105, 102, 116, 101, 100])), (.str (Str.mk #[106, 111, 105, 110, 101, 100])), (.str (Str.mk #[100, 117, 101, 108, 115])), (.str (Str.mk #[116, 119, 105, 99, 101])), (.str (Str.mk #[116, 117, 114, 110, 101, 100])), (.str (Str.mk #[115, 116, 97, 121, 115, 32, 97, 119, 97, 121]))])
def c_THINGS : Va := (.tup [(.int 0), (.int 1), (.int 2)])
def c_WISHES : Va := (.tup [(.tup [(.int 0), (.int 1), (.int 2)]), (.tup [(.int 0), (.int 2), (.int 1)]), (.tup [(.int 1), (.int 0), (.int 2)]), (.tup [(.int 1), (.int 2), (.int 0)]), (.tup [(.int 2), (.int 0), (.int 1)]), (.tup [(.int 2), (.int 1), (.int 0)])])
def D_is_whole : Fn := fnD 3
    (dRet (dAndV (dB kIsi (aCons (dVar 0) (aCons (dC (.ty "int")) aNil))) (dAndV (dNotV (dB kIsi (aCons (dVar 0) (aCons (dC (.ty "bool")) aNil)))) (dChain kLe kLe (dVar 1) (dVar 0) (dVar 2)))))
def D_is_book (F_is_whole : Fn) : Fn := fnD 2
    (dRet (dAndV (dB kIsi (aCons (dVar 0) (aCons (dC (.ty "tuple")) aNil))) (dAndV (dOp kEq (dB kLen (aCons (dVar 0) aNil)) (dC (.int 6))) (dB kAll (aCons (dComp [1] (dIt (dVar 0)) (.nm 1) dYes (dCall F_is_whole 3 (aCons (dVar 1) (aCons (dC (.int 0)) (aCons (dC c_GREATEST) aNil))))) aNil)))))
def D_look_book (F_is_book : Fn) : Fn := fnD 1
    (dIfS (dNot (dTest (dCall F_is_book 1 (aCons (dVar 0) aNil)))) (dRaise 1) dNx)
def D_size (F_look_book : Fn) : Fn := fnD 1
    (dSeq (dExpr (dCall F_look_book 1 (aCons (dVar 0) aNil)))
    (dRet (dB kSumA (aCons (dVar 0) aNil))))
def D__law_cell (ns : List Int) : Fn := fnD 2
    (dSeq (dIfS (dTest (dOp kLt (dVar 1) (dB (kLenS ns) (aCons (dVar 0) aNil)))) (dRet (dOp (kIxS ns) (dVar 0) (dVar 1))) dNx)
    (dSeq (dIfS (dTest (dOp (kEqS ns) (dVar 0) (dLst aNil))) (dRet (dC (.int 0))) dNx)
    (dRet (dOp kAdd (dOp kMul (dOp (kIxS ns) (dVar 0) (dOp kMod (dVar 1) (dB (kLenS ns) (aCons (dVar 0) aNil)))) (dC (.int 31))) (dVar 1)))))
def D__law_pick (F__law_cell : Fn) : Fn := fnD 4
    (dSeq (dSet 3 (dOp kMod (dOp kMul (dOp kAdd (dCall F__law_cell 2 (aCons (dVar 0) (aCons (dVar 1) aNil))) (dOp kMul (dC (.int 6151)) (dOp kAdd (dVar 1) (dC (.int 1))))) (dC (.int 40692))) (dC (.int 2147483399))))
    (dRet (dOp kMod (dOp kMod (dOp kAdd (dOp kMul (dVar 3) (dVar 3)) (dOp kFdivW (dVar 3) (dC (.int 31)))) (dC (.int 2147483629))) (dVar 2))))
def D__law_wishes : Fn := fnD 0
    (dRet (dLst (aCons (dTup (aCons (dC (.int 0)) (aCons (dC (.int 1)) (aCons (dC (.int 2)) aNil)))) (aCons (dTup (aCons (dC (.int 0)) (aCons (dC (.int 2)) (aCons (dC (.int 1)) aNil)))) (aCons (dTup (aCons (dC (.int 1)) (aCons (dC (.int 0)) (aCons (dC (.int 2)) aNil)))) (aCons (dTup (aCons (dC (.int 1)) (aCons (dC (.int 2)) (aCons (dC (.int 0)) aNil)))) (aCons (dTup (aCons (dC (.int 2)) (aCons (dC (.int 0)) (aCons (dC (.int 1)) aNil)))) (aCons (dTup (aCons (dC (.int 2)) (aCons (dC (.int 1)) (aCons (dC (.int 0)) aNil)))) aNil))))))))
def is_whole : Fn := D_is_whole
def is_book : Fn := D_is_book is_whole
def look_book : Fn := D_look_book is_book
def size : Fn := D_size look_book
def _law_cell (ns : List Int) : Fn := D__law_cell ns
def _law_pick (ns : List Int) : Fn := D__law_pick (_law_cell ns)
def _law_wishes : Fn := D__law_wishes
def D_is_wish (F_is_whole : Fn) : Fn := fnD 2
    (dSeq (dIfS (dOr (dNot (dTest (dB kIsi (aCons (dVar 0) (aCons (dC (.ty "tuple")) aNil))))) (dOr (dTest (dOp kNe (dB kLen (aCons (dVar 0) aNil)) (dC (.int 3)))) (dNot (dTest (dB kAll (aCons (dComp [1] (dIt (dVar 0)) (.nm 1) dYes (dCall F_is_whole 3 (aCons (dVar 1) (aCons (dC (.int 0)) (aCons (dC (.int 2)) aNil))))) aNil)))))) (dRet (dC (.bl false))) dNx)
    (dRet (dOp kIn (dVar 0) (dC c_WISHES))))
def D_look_thing (F_is_whole : Fn) : Fn := fnD 1
    (dIfS (dNot (dTest (dCall F_is_whole 3 (aCons (dVar 0) (aCons (dC (.int 0)) (aCons (dC (.int 2)) aNil)))))) (dRaise 4) dNx)
def D_plus (F_look_book : Fn) : Fn := fnD 5
    (dSeq (dExpr (dCall F_look_book 1 (aCons (dVar 0) aNil)))
    (dSeq (dExpr (dCall F_look_book 1 (aCons (dVar 1) aNil)))
    (dSeq (dSet 2 (dB kTuple (aCons (dComp [3, 4] (dZipS (aCons (dVar 0) (aCons (dVar 1) aNil))) (.tp [3, 4]) dYes (dOp kAdd (dVar 3) (dVar 4))) aNil)))
    (dSeq (dExpr (dCall F_look_book 1 (aCons (dVar 2) aNil)))
    (dRet (dVar 2))))))
def D_turned (F_look_book : Fn) : Fn := fnD 2
    (dSeq (dExpr (dCall F_look_book 1 (aCons (dVar 0) aNil)))
    (dRet (dB kTuple (aCons (dComp [1] (dIt (dC c_WISHES)) (.nm 1) dYes (dOp kIxU (dVar 0) (dM2 "tuple" kIndexT "list" kIndexL (dC c_WISHES) (aCons (dRev (dVar 1)) aNil)))) aNil))))
def D_renamed (F_look_book : Fn) (F_is_wish : Fn) : Fn := fnD 6
    (dSeq (dExpr (dCall F_look_book 1 (aCons (dVar 0) aNil)))
    (dSeq (dIfS (dNot (dTest (dCall F_is_wish 1 (aCons (dVar 1) aNil)))) (dRaise 5) dNx)
    (dSeq (dSet 2 dNewD)
    (dSeq (dForC [1, 2] (dZipS (aCons (dC c_WISHES) (aCons (dVar 0) aNil))) (.tp [3, 4]) (dPutK kPutX (dVar 2) (dB kTuple (aCons (dComp [5] (dIt (dVar 3)) (.nm 5) dYes (dOp kIxU (dVar 1) (dVar 5))) aNil)) (dVar 4)))
    (dRet (dB kTuple (aCons (dComp [3] (dIt (dC c_WISHES)) (.nm 3) dYes (dOp kDgX (dVar 2) (dVar 3))) aNil)))))))
def D_ahead_in : Fn := fnD 5
    (dRet (dB kSumA (aCons (dComp [3, 4] (dZipS (aCons (dC c_WISHES) (aCons (dVar 0) aNil))) (.tp [3, 4]) (dTest (dOp kLt (dM2 "tuple" kIndexT "list" kIndexL (dVar 3) (aCons (dVar 1) aNil)) (dM2 "tuple" kIndexT "list" kIndexL (dVar 3) (aCons (dVar 2) aNil)))) (dVar 4)) aNil)))
def D_lifted_wish : Fn := fnD 4
    (dSeq (dSet 2 (dM2 "tuple" kIndexT "list" kIndexL (dVar 0) (aCons (dVar 1) aNil)))
    (dSeq (dIfS (dTest (dOp kEq (dVar 2) (dC (.int 0)))) (dRet (dVar 0)) dNx)
    (dSeq (dSet 3 (dB kList (aCons (dVar 0) aNil)))
    (dSeq (dPut2 (dVar 3) (dOp kSub (dVar 2) (dC (.int 1))) (dVar 3) (dVar 2) (aCons (dOp kIxU (dVar 3) (dVar 2)) (aCons (dOp kIxU (dVar 3) (dOp kSub (dVar 2) (dC (.int 1)))) aNil)))
    (dRet (dB kTuple (aCons (dVar 3) aNil)))))))
def D_lifted (F_look_book : Fn) (F_look_thing : Fn) (F_is_whole : Fn) (F_lifted_wish : Fn) : Fn := fnD 5
    (dSeq (dExpr (dCall F_look_book 1 (aCons (dVar 0) aNil)))
    (dSeq (dExpr (dCall F_look_thing 1 (aCons (dVar 2) aNil)))
    (dSeq (dIfS (dOr (dNot (dTest (dCall F_is_whole 3 (aCons (dVar 1) (aCons (dC (.int 0)) (aCons (dC (.int 5)) aNil)))))) (dTest (dOp kEq (dOp kIxU (dVar 0) (dVar 1)) (dC (.int 0))))) (dRaise 4) dNx)
    (dSeq (dSet 3 (dB kList (aCons (dVar 0) aNil)))
    (dSeq (dPutK kPut (dVar 3) (dVar 1) (dOp kSub (dOp kIxU (dVar 3) (dVar 1)) (dC (.int 1))))
    (dSeq (dSet 4 (dM2 "tuple" kIndexT "list" kIndexL (dC c_WISHES) (aCons (dCall F_lifted_wish 2 (aCons (dOp kIxU (dC c_WISHES) (dVar 1)) (aCons (dVar 2) aNil))) aNil)))
    (dSeq (dPutK kPut (dVar 3) (dVar 4) (dOp kAdd (dOp kIxU (dVar 3) (dVar 4)) (dC (.int 1))))
    (dSeq (dExpr (dCall F_look_book 1 (aCons (dB kTuple (aCons (dVar 3) aNil)) aNil)))
    (dRet (dB kTuple (aCons (dVar 3) aNil)))))))))))
def is_wish : Fn := D_is_wish is_whole
def look_thing : Fn := D_look_thing is_whole
def plus : Fn := D_plus look_book
def turned : Fn := D_turned look_book
def renamed : Fn := D_renamed look_book is_wish
def ahead_in : Fn := D_ahead_in
def lifted_wish : Fn := D_lifted_wish
def lifted : Fn := D_lifted look_book look_thing is_whole lifted_wish
def D_more (F_ahead_in : Fn) : Fn := fnD 3
    (dRet (dOp kSub (dCall F_ahead_in 3 (aCons (dVar 0) (aCons (dVar 1) (aCons (dVar 2) aNil)))) (dCall F_ahead_in 3 (aCons (dVar 0) (aCons (dVar 2) (aCons (dVar 1) aNil))))))
def D_is_rule_in (F_is_whole : Fn) (F_is_rule_in : Fn) : Fn := fnD 5
    (dSeq (dIfS (dOr (dTest (dOp kEq (dVar 1) (dC (.int 0)))) (dOr (dNot (dTest (dB kIsi (aCons (dVar 0) (aCons (dC (.ty "tuple")) aNil))))) (dOr (dTest (dOp kEq (dVar 0) (dTup aNil))) (dNot (dTest (dB kIsi (aCons (dOp kIxU (dVar 0) (dC (.int 0))) (aCons (dC (.ty "str")) aNil)))))))) (dRet (dC (.bl false))) dNx)
    (dSeq (dSet 2 (dOp kIxU (dVar 0) (dC (.int 0))))
    (dSeq (dIfS (dTest (dOp kIn (dVar 2) (dTup (aCons (dC (.str (Str.mk #[100, 117, 101, 108, 115]))) (aCons (dC (.str (Str.mk #[119, 111, 114, 115, 116]))) aNil))))) (dRet (dOp kEq (dB kLen (aCons (dVar 0) aNil)) (dC (.int 1)))) dNx)
    (dSeq (dIfS (dAnd (dTest (dOp kEq (dVar 2) (dC (.str (Str.mk #[112, 111, 105, 110, 116, 115]))))) (dTest (dOp kEq (dB kLen (aCons (dVar 0) aNil)) (dC (.int 2))))) (dSeq (dSet 3 (dOp kIxU (dVar 0) (dC (.int 1))))
    (dRet (dAndV (dB kIsi (aCons (dVar 3) (aCons (dC (.ty "tuple")) aNil))) (dAndV (dOp kEq (dB kLen (aCons (dVar 3) aNil)) (dC (.int 3))) (dB kAll (aCons (dComp [4] (dIt (dVar 3)) (.nm 4) dYes (dCall F_is_whole 3 (aCons (dVar 4) (aCons (dC (.int 0)) (aCons (dC c_MOST_POINTS) aNil))))) aNil)))))) dNx)
    (dSeq (dIfS (dAnd (dTest (dOp kIn (dVar 2) (dTup (aCons (dC (.str (Str.mk #[111, 117, 116]))) (aCons (dC (.str (Str.mk #[98, 97, 99, 107]))) aNil))))) (dTest (dOp kEq (dB kLen (aCons (dVar 0) aNil)) (dC (.int 2))))) (dRet (dCall F_is_rule_in 2 (aCons (dOp kIxU (dVar 0) (dC (.int 1))) (aCons (dOp kSub (dVar 1) (dC (.int 1))) aNil)))) dNx)
    (dSeq (dIfS (dOr (dTest (dOp kNe (dVar 2) (dC (.str (Str.mk #[116, 104, 101, 110]))))) (dTest (dOp kNe (dB kLen (aCons (dVar 0) aNil)) (dC (.int 3))))) (dRet (dC (.bl false))) dNx)
    (dRet (dAndV (dCall F_is_rule_in 2 (aCons (dOp kIxU (dVar 0) (dC (.int 1))) (aCons (dOp kSub (dVar 1) (dC (.int 1))) aNil))) (dCall F_is_rule_in 2 (aCons (dOp kIxU (dVar 0) (dC (.int 2))) (aCons (dOp kSub (dVar 1) (dC (.int 1))) aNil)))))))))))
def D_is_rule (F_is_rule_in : Fn) : Fn := fnD 1
    (dRet (dCall F_is_rule_in 2 (aCons (dVar 0) (aCons (dC c_DEEPEST) aNil))))
def D_look_rule (F_is_rule : Fn) : Fn := fnD 1
    (dIfS (dNot (dTest (dCall F_is_rule 1 (aCons (dVar 0) aNil)))) (dRaise 2) dNx)
def D_points_of : Fn := fnD 10
    (dSeq (dSet 3 (dOp kIxU (dDisp [((dC (.int 1)), (dTup (aCons (dC (.int 0)) aNil))), ((dC (.int 2)), (dTup (aCons (dOp kIxU (dVar 0) (dC (.int 0))) (aCons (dOp kIxU (dVar 0) (dC (.int 2))) aNil)))), ((dC (.int 3)), (dVar 0))]) (dB kLen (aCons (dVar 2) aNil))))
    (dSeq (dSet 4 (dB kDict (aCons (dComp [5] (dIt (dVar 2)) (.nm 5) dYes (dTup (aCons (dVar 5) (aCons (dC (.int 0)) aNil)))) aNil)))
    (dSeq (dForC [2, 3, 4] (dZipS (aCons (dC c_WISHES) (aCons (dVar 1) aNil))) (.tp [6, 7]) (dSeq (dSet 8 (dComp [5] (dIt (dVar 6)) (.nm 5) (dTest (dOp kIn (dVar 5) (dVar 2))) (dVar 5)))
    (dForC [2, 3, 4, 7] (dZipS (aCons (dVar 8) (aCons (dVar 3) aNil))) (.tp [5, 9]) (dPutK kPut (dVar 4) (dVar 5) (dOp kAdd (dOp kIxU (dVar 4) (dVar 5)) (dOp kMul (dVar 9) (dVar 7)))))))
    (dRet (dVar 4)))))
def D_duels_of (F_more : Fn) : Fn := fnD 7
    (dSeq (dSet 2 dNewD)
    (dSeq (dForC [0, 1, 2] (dIt (dVar 1)) (.nm 3) (dSeq (dSet 4 (dComp [5] (dIt (dVar 1)) (.nm 5) (dTest (dOp kNe (dVar 5) (dVar 3))) (dCall F_more 3 (aCons (dVar 0) (aCons (dVar 3) (aCons (dVar 5) aNil))))))
    (dPutK kPut (dVar 2) (dVar 3) (dOp kAdd (dOp kMul (dC (.int 2)) (dB kLen (aCons (dComp [6] (dIt (dVar 4)) (.nm 6) (dTest (dOp kGt (dVar 6) (dC (.int 0)))) (dVar 6)) aNil))) (dB kLen (aCons (dComp [6] (dIt (dVar 4)) (.nm 6) (dTest (dOp kEq (dVar 6) (dC (.int 0)))) (dVar 6)) aNil))))))
    (dRet (dVar 2))))
def D_worst_of (F_more : Fn) : Fn := fnD 6
    (dSeq (dSet 2 dNewD)
    (dSeq (dForC [0, 1, 2] (dIt (dVar 1)) (.nm 3) (dSeq (dSet 4 (dComp [5] (dIt (dVar 1)) (.nm 5) (dTest (dOp kNe (dVar 5) (dVar 3))) (dCall F_more 3 (aCons (dVar 0) (aCons (dVar 3) (aCons (dVar 5) aNil))))))
    (dPutK kPut (dVar 2) (dVar 3) (dIf (dTest (dOp kNe (dVar 4) (dLst aNil))) (dB kMin (aCons (dVar 4) aNil)) (dC (.int 0))))))
    (dRet (dVar 2))))
def D_rows_by : Fn := fnD 4
    (dSeq (dSet 1 (dLst aNil))
    (dSeq (dForC [0, 1] (dIt (dRev (dB kSortU (aCons (dLock 0 (dComp [3] (dKeys (dVar 0)) (.nm 3) dYes (dOp kIxU (dVar 0) (dVar 3)))) aNil)))) (.nm 2) (dExpr (dM "list" kAppend (dVar 1) (aCons (dB kTuple (aCons (dB kSortA (aCons (dLock 0 (dComp [3] (dKeys (dVar 0)) (.nm 3) (dTest (dOp kEq (dOp kIxU (dVar 0) (dVar 3)) (dVar 2))) (dVar 3))) aNil)) aNil)) aNil))))
    (dRet (dVar 1))))
def D_by_leaving (F_ranked : Fn) : Fn := fnD 6
    (dSeq (dSet 3 (dLst aNil))
    (dSeq (whileD (dTest (dOp kNe (dVar 2) (dLst aNil))) (dSeq (dSet 4 (dOp kIxU (dCall F_ranked 3 (aCons (dVar 0) (aCons (dVar 1) (aCons (dVar 2) aNil)))) (dNeg (dC (.int 1)))))
    (dSeq (dExpr (dM "list" kAppend (dVar 3) (aCons (dVar 4) aNil)))
    (dSet 2 (dComp [5] (dIt (dVar 2)) (.nm 5) (dTest (dOp kNotIn (dVar 5) (dVar 4))) (dVar 5))))) 5)
    (dRet (dRev (dVar 3)))))
def D_ranked (F_rows_by : Fn) (F_points_of : Fn) (F_duels_of : Fn) (F_worst_of : Fn) (F_by_leaving : Fn) (F_ranked : Fn) (F_turned : Fn) : Fn := fnD 9
    (dSeq (dSet 3 (dOp kIxU (dVar 0) (dC (.int 0))))
    (dSeq (dIfS (dTest (dOp kEq (dVar 3) (dC (.str (Str.mk #[112, 111, 105, 110, 116, 115]))))) (dRet (dCall F_rows_by 1 (aCons (dCall F_points_of 3 (aCons (dOp kIxU (dVar 0) (dC (.int 1))) (aCons (dVar 1) (aCons (dVar 2) aNil)))) aNil))) dNx)
    (dSeq (dIfS (dTest (dOp kIn (dVar 3) (dTup (aCons (dC (.str (Str.mk #[100, 117, 101, 108, 115]))) (aCons (dC (.str (Str.mk #[119, 111, 114, 115, 116]))) aNil))))) (dRet (dCall F_rows_by 1 (aCons (dIf (dTest (dOp kEq (dVar 3) (dC (.str (Str.mk #[100, 117, 101, 108, 115]))))) (dCall F_duels_of 2 (aCons (dVar 1) (aCons (dVar 2) aNil))) (dCall F_worst_of 2 (aCons (dVar 1) (aCons (dVar 2) aNil)))) aNil))) dNx)
    (dSeq (dIfS (dTest (dOp kEq (dVar 3) (dC (.str (Str.mk #[111, 117, 116]))))) (dRet (dCall F_by_leaving 3 (aCons (dOp kIxU (dVar 0) (dC (.int 1))) (aCons (dVar 1) (aCons (dVar 2) aNil))))) dNx)
    (dSeq (dIfS (dTest (dOp kEq (dVar 3) (dC (.str (Str.mk #[98, 97, 99, 107]))))) (dRet (dRev (dCall F_ranked 3 (aCons (dOp kIxU (dVar 0) (dC (.int 1))) (aCons (dCall F_turned 1 (aCons (dVar 1) aNil)) (aCons (dVar 2) aNil)))))) dNx)
    (dSeq (dSet 4 (dLst aNil))
    (dSeq (dForC [0, 1, 2, 4] (dIt (dCall F_ranked 3 (aCons (dOp kIxU (dVar 0) (dC (.int 1))) (aCons (dVar 1) (aCons (dVar 2) aNil))))) (.nm 5) (dSeq (dSet 6 (dCall F_ranked 3 (aCons (dOp kIxU (dVar 0) (dC (.int 2))) (aCons (dVar 1) (aCons (dVar 2) aNil)))))
    (dExpr (dM "list" kExtend (dVar 4) (aCons (dComp [8] (dIt (dVar 6)) (.nm 8) dYes (dB kTuple (aCons (dComp [7] (dIt (dVar 8)) (.nm 7) (dTest (dOp kIn (dVar 7) (dVar 5))) (dVar 7)) aNil))) aNil)))))
    (dRet (dComp [5] (dIt (dVar 4)) (.nm 5) (dTest (dOp kNe (dVar 5) (dTup aNil))) (dVar 5))))))))))
def D_outcome (F_look_rule : Fn) (F_look_book : Fn) (F_ranked : Fn) : Fn := fnD 2
    (dSeq (dExpr (dCall F_look_rule 1 (aCons (dVar 0) aNil)))
    (dSeq (dExpr (dCall F_look_book 1 (aCons (dVar 1) aNil)))
    (dRet (dB kTuple (aCons (dCall F_ranked 3 (aCons (dVar 0) (aCons (dVar 1) (aCons (dB kList (aCons (dC c_THINGS) aNil)) aNil)))) aNil)))))
def D_duel_winner (F_look_book : Fn) (F_more : Fn) : Fn := fnD 4
    (dSeq (dExpr (dCall F_look_book 1 (aCons (dVar 0) aNil)))
    (dSeq (dSet 1 (dComp [2] (dIt (dC c_THINGS)) (.nm 2) (dTest (dB kAll (aCons (dComp [3] (dIt (dC c_THINGS)) (.nm 3) (dTest (dOp kNe (dVar 3) (dVar 2))) (dOp kGt (dCall F_more 3 (aCons (dVar 0) (aCons (dVar 2) (aCons (dVar 3) aNil)))) (dC (.int 0)))) aNil))) (dVar 2)))
    (dRet (dOp kIxU (dOp kAdd (dVar 1) (dLst (aCons (dC .non) aNil))) (dC (.int 0))))))
def D__law_rule (F__law_pick : Fn) (F__law_rule : Fn) : Fn := fnD 7
    (dSeq (dSet 3 (dCall F__law_pick 3 (aCons (dVar 0) (aCons (dVar 1) (aCons (dC (.int 8)) aNil)))))
    (dSeq (dIfS (dAnd (dTest (dOp kGt (dVar 3) (dC (.int 2)))) (dTest (dOp kGt (dVar 2) (dC (.int 1))))) (dSeq (dSet 4 (dCall F__law_rule 3 (aCons (dVar 0) (aCons (dOp kAdd (dVar 1) (dC (.int 5))) (aCons (dOp kSub (dVar 2) (dC (.int 1))) aNil)))))
    (dSeq (dIfS (dTest (dOp kLt (dVar 3) (dC (.int 6)))) (dRet (dTup (aCons (dOp kIxU (dLst (aCons (dC (.str (Str.mk #[111, 117, 116]))) (aCons (dC (.str (Str.mk #[111, 117, 116]))) (aCons (dC (.str (Str.mk #[98, 97, 99, 107]))) aNil)))) (dOp kSub (dVar 3) (dC (.int 3)))) (aCons (dVar 4) aNil)))) dNx)
    (dRet (dTup (aCons (dC (.str (Str.mk #[116, 104, 101, 110]))) (aCons (dVar 4) (aCons (dCall F__law_rule 3 (aCons (dVar 0) (aCons (dOp kAdd (dOp kAdd (dVar 1) (dC (.int 5))) (dOp kIxU (dLst (aCons (dC (.int 0)) (aCons (dC (.int 5)) (aCons (dC (.int 15)) aNil)))) (dOp kSub (dVar 2) (dC (.int 1))))) (aCons (dOp kSub (dVar 2) (dC (.int 1))) aNil)))) aNil))))))) dNx)
    (dSeq (dIfS (dTest (dOp kLt (dOp kMod (dVar 3) (dC (.int 4))) (dC (.int 2)))) (dRet (dOp kIxU (dLst (aCons (dTup (aCons (dC (.str (Str.mk #[100, 117, 101, 108, 115]))) aNil)) (aCons (dTup (aCons (dC (.str (Str.mk #[119, 111, 114, 115, 116]))) aNil)) aNil))) (dOp kMod (dVar 3) (dC (.int 4))))) dNx)
    (dSeq (dSet 5 (dLst (aCons (dTup (aCons (dC (.int 2)) (aCons (dC (.int 1)) (aCons (dC (.int 0)) aNil)))) (aCons (dTup (aCons (dC (.int 1)) (aCons (dC (.int 0)) (aCons (dC (.int 0)) aNil)))) (aCons (dTup (aCons (dC (.int 1)) (aCons (dC (.int 1)) (aCons (dC (.int 0)) aNil)))) (aCons (dB kTuple (aCons (dComp [6] (dRng1 (aCons (dC (.int 3)) aNil)) (.nm 6) dYes (dCall F__law_pick 3 (aCons (dVar 0) (aCons (dOp kAdd (dOp kAdd (dVar 1) (dC (.int 1))) (dVar 6)) (aCons (dC (.int 10)) aNil))))) aNil)) aNil))))))
    (dRet (dTup (aCons (dC (.str (Str.mk #[112, 111, 105, 110, 116, 115]))) (aCons (dOp kIxU (dVar 5) (dCall F__law_pick 3 (aCons (dVar 0) (aCons (dOp kAdd (dVar 1) (dC (.int 4))) (aCons (dC (.int 4)) aNil))))) aNil))))))))
def more : Fn := D_more ahead_in
def is_rule_in : Nat → Fn
  | 0 => noF
  | d + 1 => D_is_rule_in is_whole (is_rule_in d)
def is_rule : Fn := D_is_rule (is_rule_in 4)
def look_rule : Fn := D_look_rule is_rule
def points_of : Fn := D_points_of
def duels_of : Fn := D_duels_of more
def worst_of : Fn := D_worst_of more
def rows_by : Fn := D_rows_by
def ranked : Nat → Fn
  | 0 => noF
  | d + 1 => D_ranked rows_by points_of duels_of worst_of (D_by_leaving (ranked d)) (ranked d) turned
def outcome : Fn := D_outcome look_rule look_book (ranked 4)
def duel_winner : Fn := D_duel_winner look_book more
def _law_rule (ns : List Int) : Nat → Fn
  | 0 => noF
  | d + 1 => D__law_rule (_law_pick ns) (_law_rule ns d)
def D_row_of : Fn := fnD 4
    (dRet (dOp kIxU (dComp [2, 3] (dEnum (aCons (dVar 0) aNil)) (.tp [2, 3]) (dTest (dOp kIn (dVar 1) (dVar 3))) (dVar 2)) (dC (.int 0))))
def row_of : Fn := D_row_of
def D_all_books : Fn := fnD 6
    (dSeq (dSet 1 (dLst (aCons (dTup aNil) aNil)))
    (dSeq (dForC [0, 1] (dRng1 (aCons (dC (.int 5)) aNil)) (.nm 2) (dSeq (dSet 3 (dLst aNil))
    (dSeq (dForC [0, 3] (dIt (dVar 1)) (.nm 4) (dExpr (dM "list" kExtend (dVar 3) (aCons (dComp [5] (dRng1 (aCons (dOp kAdd (dOp kSub (dVar 0) (dB kSumA (aCons (dVar 4) aNil))) (dC (.int 1))) aNil)) (.nm 5) dYes (dOp kAdd (dVar 4) (dTup (aCons (dVar 5) aNil)))) aNil))))
    (dSet 1 (dVar 3)))))
    (dRet (dComp [4] (dIt (dVar 1)) (.nm 4) dYes (dOp kAdd (dVar 4) (dTup (aCons (dOp kSub (dVar 0) (dB kSumA (aCons (dVar 4) aNil))) aNil)))))))
def D_is_first_for_all (F_ahead_in : Fn) : Fn := fnD 3
    (dRet (dAndV (dOp kGt (dB kSumA (aCons (dVar 0) aNil)) (dC (.int 0))) (dOp kEq (dCall F_ahead_in 3 (aCons (dVar 0) (aCons (dVar 1) (aCons (dVar 2) aNil)))) (dB kSumA (aCons (dVar 0) aNil)))))
def D_look_promise : Fn := fnD 1
    (dIfS (dOr (dNot (dTest (dB kIsi (aCons (dVar 0) (aCons (dC (.ty "str")) aNil))))) (dTest (dOp kNotIn (dVar 0) (dC c_PROMISES)))) (dRaise 3) dNx)
def D_pairs : Fn := fnD 3
    (dSeq (dSet 0 (dLst aNil))
    (dSeq (dForC [0] (dIt (dC c_THINGS)) (.nm 1) (dExpr (dM "list" kExtend (dVar 0) (aCons (dComp [2] (dIt (dC c_THINGS)) (.nm 2) (dTest (dOp kNe (dVar 2) (dVar 1))) (dTup (aCons (dVar 1) (aCons (dVar 2) aNil)))) aNil))))
    (dRet (dVar 0))))
def D_lesser_books (F_all_books : Fn) : Fn := fnD 4
    (dSeq (dSet 1 (dLst aNil))
    (dSeq (dForC [1] (dRng2 (aCons (dC (.int 1)) (aCons (dOp kAdd (dB kSumA (aCons (dVar 0) aNil)) (dC (.int 1))) aNil))) (.nm 2) (dExpr (dM "list" kExtend (dVar 1) (aCons (dComp [3] (dIt (dCall F_all_books 1 (aCons (dVar 2) aNil))) (.nm 3) dYes (dTup (aCons (dVar 3) aNil))) aNil))))
    (dRet (dVar 1))))
def D_cases (F_pairs : Fn) (F_lesser_books : Fn) : Fn := fnD 7
    (dSeq (dIfS (dTest (dOp kEq (dVar 0) (dC (.str (Str.mk #[110, 97, 109, 101, 115]))))) (dRet (dComp [2] (dIt (dC c_WISHES)) (.nm 2) dYes (dTup (aCons (dVar 2) aNil)))) dNx)
    (dSeq (dIfS (dTest (dOp kEq (dVar 0) (dC (.str (Str.mk #[97, 108, 108]))))) (dRet (dCall0 F_pairs)) dNx)
    (dSeq (dIfS (dTest (dOp kEq (dVar 0) (dC (.str (Str.mk #[108, 105, 102, 116, 101, 100]))))) (dSeq (dSet 3 (dLst aNil))
    (dSeq (dForC [1, 3] (dRng1 (aCons (dC (.int 6)) aNil)) (.nm 4) (dIfS (dTest (dOp kGt (dOp kIxU (dVar 1) (dVar 4)) (dC (.int 0)))) (dExpr (dM "list" kExtend (dVar 3) (aCons (dComp [5] (dIt (dC c_THINGS)) (.nm 5) (dTest (dOp kNe (dOp kIxU (dOp kIxU (dC c_WISHES) (dVar 4)) (dC (.int 0))) (dVar 5))) (dTup (aCons (dVar 4) (aCons (dVar 5) aNil)))) aNil))) dNx))
    (dRet (dVar 3)))) dNx)
    (dSeq (dIfS (dTest (dOp kEq (dVar 0) (dC (.str (Str.mk #[106, 111, 105, 110, 101, 100]))))) (dRet (dCall F_lesser_books 1 (aCons (dVar 1) aNil))) dNx)
    (dSeq (dIfS (dTest (dOp kEq (dVar 0) (dC (.str (Str.mk #[115, 116, 97, 121, 115, 32, 97, 119, 97, 121]))))) (dRet (dComp [4, 5] (dEnum (aCons (dComp [6] (dIt (dC c_WISHES)) (.nm 6) dYes (dOp kIxU (dVar 6) (dC (.int 0)))) aNil)) (.tp [4, 5]) dYes (dTup (aCons (dVar 4) (aCons (dVar 5) aNil))))) dNx)
    (dRet (dLst (aCons (dTup aNil) aNil))))))))
def D_is_parted (F_outcome : Fn) (F_plus : Fn) : Fn := fnD 6
    (dSeq (dSet 4 (dComp [5] (dIt (dOp kIxU (dVar 1) (dC (.int 0)))) (.nm 5) (dTest (dOp kIn (dVar 5) (dOp kIxU (dCall F_outcome 2 (aCons (dVar 0) (aCons (dVar 3) aNil))) (dC (.int 0))))) (dVar 5)))
    (dRet (dAndV (dOp kNe (dVar 4) (dLst aNil)) (dOp kNe (dB kList (aCons (dOp kIxU (dCall F_outcome 2 (aCons (dVar 0) (aCons (dCall F_plus 2 (aCons (dVar 2) (aCons (dVar 3) aNil))) aNil))) (dC (.int 0))) aNil)) (dVar 4)))))
def D_is_left (F_outcome : Fn) : Fn := fnD 7
    (dSeq (dAsgT (.tp [4, 5]) (dVar 3))
    (dSeq (dSet 6 (dOp kAdd (dOp kAdd (dSl (dVar 2) oNone (oSome (dVar 4))) (dTup (aCons (dOp kAdd (dOp kIxU (dVar 2) (dVar 4)) (dC (.int 1))) aNil))) (dSl (dVar 2) (oSome (dOp kAdd (dVar 4) (dC (.int 1)))) oNone)))
    (dRet (dAndV (dOp kIn (dVar 5) (dOp kIxU (dVar 1) (dC (.int 0)))) (dOp kNotIn (dVar 5) (dOp kIxU (dCall F_outcome 2 (aCons (dVar 0) (aCons (dVar 6) aNil))) (dC (.int 0))))))))
def D_is_broken (F_outcome : Fn) (F_renamed : Fn) (F_row_of : Fn) (F_is_first_for_all : Fn) (F_lifted : Fn) (F_is_parted : Fn) (F_duel_winner : Fn) (F_plus : Fn) (F_turned : Fn) (F_is_left : Fn) : Fn := fnD 10
    (dSeq (dSet 4 (dB kTuple (aCons (dCall F_outcome 2 (aCons (dVar 0) (aCons (dVar 2) aNil))) aNil)))
    (dSeq (dIfS (dTest (dOp kEq (dVar 1) (dC (.str (Str.mk #[110, 97, 109, 101, 115]))))) (dSeq (dSet 5 (dComp [7] (dIt (dVar 4)) (.nm 7) dYes (dB kTuple (aCons (dB kSortA (aCons (dComp [6] (dIt (dVar 7)) (.nm 6) dYes (dOp kIxU (dOp kIxU (dVar 3) (dC (.int 0))) (dVar 6))) aNil)) aNil))))
    (dRet (dOp kNe (dCall F_outcome 2 (aCons (dVar 0) (aCons (dCall F_renamed 2 (aCons (dVar 2) (aCons (dOp kIxU (dVar 3) (dC (.int 0))) aNil))) aNil))) (dB kTuple (aCons (dVar 5) aNil))))) dNx)
    (dSeq (dIfS (dTest (dOp kEq (dVar 1) (dC (.str (Str.mk #[97, 108, 108]))))) (dRet (dAndV (dCall F_is_first_for_all 3 (aCons (dVar 2) (aCons (dOp kIxU (dVar 3) (dC (.int 0))) (aCons (dOp kIxU (dVar 3) (dC (.int 1))) aNil)))) (dOp kGe (dCall F_row_of 2 (aCons (dVar 4) (aCons (dOp kIxU (dVar 3) (dC (.int 0))) aNil))) (dCall F_row_of 2 (aCons (dVar 4) (aCons (dOp kIxU (dVar 3) (dC (.int 1))) aNil)))))) dNx)
    (dSeq (dIfS (dTest (dOp kEq (dVar 1) (dC (.str (Str.mk #[108, 105, 102, 116, 101, 100]))))) (dSeq (dSet 8 (dCall F_outcome 2 (aCons (dVar 0) (aCons (dCall F_lifted 3 (aCons (dVar 2) (aCons (dOp kIxU (dVar 3) (dC (.int 0))) (aCons (dOp kIxU (dVar 3) (dC (.int 1))) aNil)))) aNil))))
    (dRet (dAndV (dOp kIn (dOp kIxU (dVar 3) (dC (.int 1))) (dOp kIxU (dVar 4) (dC (.int 0)))) (dOp kNotIn (dOp kIxU (dVar 3) (dC (.int 1))) (dOp kIxU (dVar 8) (dC (.int 0))))))) dNx)
    (dSeq (dIfS (dTest (dOp kEq (dVar 1) (dC (.str (Str.mk #[106, 111, 105, 110, 101, 100]))))) (dRet (dCall F_is_parted 4 (aCons (dVar 0) (aCons (dVar 4) (aCons (dVar 2) (aCons (dOp kIxU (dVar 3) (dC (.int 0))) aNil)))))) dNx)
    (dSeq (dIfS (dTest (dOp kEq (dVar 1) (dC (.str (Str.mk #[100, 117, 101, 108, 115]))))) (dSeq (dSet 9 (dCall F_duel_winner 1 (aCons (dVar 2) aNil)))
    (dRet (dAndV (dOp kIsNot (dVar 9) (dC .non)) (dOp kNe (dOp kIxU (dVar 4) (dC (.int 0))) (dTup (aCons (dVar 9) aNil)))))) dNx)
    (dSeq (dIfS (dTest (dOp kEq (dVar 1) (dC (.str (Str.mk #[116, 119, 105, 99, 101]))))) (dRet (dOp kNe (dCall F_outcome 2 (aCons (dVar 0) (aCons (dCall F_plus 2 (aCons (dVar 2) (aCons (dVar 2) aNil))) aNil))) (dVar 4))) dNx)
    (dSeq (dIfS (dTest (dOp kEq (dVar 1) (dC (.str (Str.mk #[116, 117, 114, 110, 101, 100]))))) (dRet (dOp kNe (dCall F_outcome 2 (aCons (dVar 0) (aCons (dCall F_turned 1 (aCons (dVar 2) aNil)) aNil))) (dRev (dVar 4)))) dNx)
    (dRet (dCall F_is_left 4 (aCons (dVar 0) (aCons (dVar 4) (aCons (dVar 2) (aCons (dVar 3) aNil))))))))))))))
def all_books : Fn := D_all_books
def is_first_for_all : Fn := D_is_first_for_all ahead_in
def look_promise : Fn := D_look_promise
def pairs : Fn := D_pairs
def lesser_books : Fn := D_lesser_books all_books
def cases : Fn := D_cases pairs lesser_books
def is_parted : Fn := D_is_parted outcome plus
def is_left : Fn := D_is_left outcome
def is_broken : Fn := D_is_broken outcome renamed row_of is_first_for_all lifted is_parted duel_winner plus turned is_left
def D__law_spoilt : Fn := fnD 7
    (dSeq (dSet 3 (dOp kMod (dVar 1) (dOp kAdd (dB kLen (aCons (dVar 0) aNil)) (dC (.int 1)))))
    (dSeq (dSet 4 (dOp kIxU (dVar 2) (dOp kMod (dOp kFdivW (dVar 1) (dC (.int 1000))) (dB kLen (aCons (dVar 2) aNil)))))
    (dSeq (dSet 5 (dOp kAdd (dOp kAdd (dVar 3) (dC (.int 1))) (dOp kMod (dOp kFdivW (dVar 1) (dC (.int 7))) (dC (.int 9)))))
    (dSeq (dSet 6 (dOp kMod (dOp kFdivW (dVar 1) (dC (.int 100000))) (dC (.int 8))))
    (dSeq (dIfS (dTest (dOp kLt (dVar 6) (dC (.int 2)))) (dRet (dOp kAdd (dOp kAdd (dSl (dVar 0) oNone (oSome (dVar 3))) (dVar 4)) (dSl (dVar 0) (oSome (dVar 3)) oNone))) dNx)
    (dSeq (dIfS (dTest (dOp kEq (dVar 6) (dC (.int 2)))) (dRet (dOp kAdd (dSl (dVar 0) oNone (oSome (dVar 3))) (dSl (dVar 0) (oSome (dOp kAdd (dVar 3) (dC (.int 1)))) oNone))) dNx)
    (dSeq (dIfS (dTest (dOp kLt (dVar 6) (dC (.int 5)))) (dRet (dOp kAdd (dOp kAdd (dSl (dVar 0) oNone (oSome (dVar 3))) (dVar 4)) (dSl (dVar 0) (oSome (dOp kAdd (dVar 3) (dC (.int 1)))) oNone))) dNx)
    (dSeq (dIfS (dTest (dOp kEq (dVar 6) (dC (.int 5)))) (dRet (dOp kAdd (dSl (dVar 0) oNone (oSome (dVar 3))) (dSl (dVar 0) (oSome (dVar 5)) oNone))) dNx)
    (dSeq (dIfS (dTest (dOp kEq (dVar 6) (dC (.int 6)))) (dRet (dOp kAdd (dSl (dVar 0) oNone (oSome (dVar 5))) (dSl (dVar 0) (oSome (dVar 3)) oNone))) dNx)
    (dRet (dOp kIxU (dLst (aCons (dOp kAdd (dVar 0) (dC (.str (Str.mk #[32])))) (aCons (dOp kAdd (dC (.str (Str.mk #[32]))) (dVar 0)) (aCons (dOp kAdd (dSl (dVar 0) (oSome (dVar 3)) oNone) (dSl (dVar 0) oNone (oSome (dVar 3)))) (aCons (dC (.str (Str.mk #[]))) (aCons (dOp kAdd (dVar 0) (dVar 0)) aNil)))))) (dOp kMod (dVar 1) (dC (.int 5))))))))))))))
def _law_spoilt : Fn := D__law_spoilt
def D_first_break (F_look_rule : Fn) (F_look_promise : Fn) (F_all_books : Fn) (F_cases : Fn) (F_is_broken : Fn) : Fn := fnD 6
    (dSeq (dExpr (dCall F_look_rule 1 (aCons (dVar 0) aNil)))
    (dSeq (dExpr (dCall F_look_promise 1 (aCons (dVar 1) aNil)))
    (dSeq (dForC [0, 1] (dRng1 (aCons (dOp kAdd (dVar 2) (dC (.int 1))) aNil)) (.nm 3) (dForC [0, 1] (dIt (dCall F_all_books 1 (aCons (dVar 3) aNil))) (.nm 4) (dForC [0, 1, 4] (dIt (dCall F_cases 2 (aCons (dVar 1) (aCons (dVar 4) aNil)))) (.nm 5) (dIfS (dTest (dCall F_is_broken 4 (aCons (dVar 0) (aCons (dVar 1) (aCons (dVar 4) (aCons (dVar 5) aNil)))))) (dRet (dTup (aCons (dVar 4) (aCons (dVar 5) aNil)))) dNx))))
    (dRet (dC .non)))))
def D_keeps (F_first_break : Fn) : Fn := fnD 3
    (dRet (dOp kIs (dCall F_first_break 3 (aCons (dVar 0) (aCons (dVar 1) (aCons (dVar 2) aNil)))) (dC .non)))
def first_break : Fn := D_first_break look_rule look_promise all_books cases is_broken
def keeps : Fn := D_keeps first_break
def D_look_number (F_is_whole : Fn) : Fn := fnD 1
    (dIfS (dNot (dTest (dCall F_is_whole 3 (aCons (dVar 0) (aCons (dC (.int 0)) (aCons (dC (.int 5)) aNil)))))) (dRaise 4) dNx)
def D_changed_to : Fn := fnD 4
    (dSeq (dSet 3 (dB kList (aCons (dVar 0) aNil)))
    (dSeq (dPutK kPut (dVar 3) (dVar 1) (dOp kSub (dOp kIxU (dVar 3) (dVar 1)) (dC (.int 1))))
    (dSeq (dPutK kPut (dVar 3) (dVar 2) (dOp kAdd (dOp kIxU (dVar 3) (dVar 2)) (dC (.int 1))))
    (dRet (dB kTuple (aCons (dVar 3) aNil))))))
def D_changed (F_look_book : Fn) (F_look_number : Fn) (F_changed_to : Fn) : Fn := fnD 4
    (dSeq (dExpr (dCall F_look_book 1 (aCons (dVar 0) aNil)))
    (dSeq (dExpr (dCall F_look_number 1 (aCons (dVar 1) aNil)))
    (dSeq (dExpr (dCall F_look_number 1 (aCons (dVar 2) aNil)))
    (dSeq (dIfS (dTest (dOp kEq (dOp kIxU (dVar 0) (dVar 1)) (dC (.int 0)))) (dRaise 4) dNx)
    (dSeq (dSet 3 (dCall F_changed_to 3 (aCons (dVar 0) (aCons (dVar 1) (aCons (dVar 2) aNil)))))
    (dSeq (dExpr (dCall F_look_book 1 (aCons (dVar 3) aNil)))
    (dRet (dVar 3))))))))
def look_number : Fn := D_look_number is_whole
def changed_to : Fn := D_changed_to
def changed : Fn := D_changed look_book look_number changed_to
def D__law_class_v2 : Fn := fnD 3
    (dSeq (dSet 1 (dLst (aCons (dB (kIsX [0, 1, 2, 3, 4, 5, 6, 7]) (aCons (dVar 0) (aCons (dC (.gl 7)) aNil))) (aCons (dB (kIsX [0, 1, 2, 3, 4, 5, 6, 7]) (aCons (dVar 0) (aCons (dC (.gl 1)) aNil))) (aCons (dB (kIsX [0, 1, 2, 3, 4, 5, 6, 7]) (aCons (dVar 0) (aCons (dC (.gl 3)) aNil))) aNil)))))
    (dSeq (dSet 1 (dOp kAdd (dVar 1) (dLst (aCons (dB (kIsX [0, 1, 2, 3, 4, 5, 6, 7]) (aCons (dVar 0) (aCons (dC (.gl 5)) aNil))) (aCons (dB (kIsX [0, 1, 2, 3, 4, 5, 6, 7]) (aCons (dVar 0) (aCons (dC (.gl 2)) aNil))) (aCons (dB (kIsX [0, 1, 2, 3, 4, 5, 6, 7]) (aCons (dVar 0) (aCons (dC (.gl 6)) aNil))) aNil))))))
    (dSeq (dSet 1 (dOp kAdd (dVar 1) (dLst (aCons (dB (kIsX [0, 1, 2, 3, 4, 5, 6, 7]) (aCons (dVar 0) (aCons (dC (.gl 4)) aNil))) aNil))))
    (dSeq (dIfS (dOr (dTest (dOp kNe (dM "list" kCount (dVar 1) (aCons (dC (.bl true)) aNil)) (dC (.int 1)))) (dNot (dTest (dB (kIsX [0, 1, 2, 3, 4, 5, 6, 7]) (aCons (dVar 0) (aCons (dC (.ty "ValueError")) aNil)))))) (dRet (dC (.str (Str.mk #[119, 114, 111, 110, 103])))) dNx)
    (dSeq (dSet 2 (dLst (aCons (dC (.str (Str.mk #[110, 111, 32, 98, 97, 99, 107]))) (aCons (dC (.str (Str.mk #[110, 111, 32, 98, 111, 111, 107]))) (aCons (dC (.str (Str.mk #[110, 111, 32, 112, 114, 111, 109, 105, 115, 101]))) (aCons (dC (.str (Str.mk #[110, 111, 32, 114, 97, 110, 107, 105, 110, 103]))) (aCons (dC (.str (Str.mk #[110, 111, 32, 114, 117, 108, 101]))) (aCons (dC (.str (Str.mk #[110, 111, 32, 116, 101, 120, 116]))) (aCons (dC (.str (Str.mk #[110, 111, 32, 116, 104, 105, 110, 103]))) aNil)))))))))
    (dRet (dOp kIxU (dVar 2) (dM2 "tuple" kIndexT "list" kIndexL (dVar 1) (aCons (dC (.bl true)) aNil)))))))))
def D__law_deed (F__law_pick : Fn) : Fn := fnD 7
    (dSeq (dPar [3, 4] (aCons (dCall F__law_pick 3 (aCons (dVar 0) (aCons (dVar 1) (aCons (dC (.int 7)) aNil)))) (aCons (dCall F__law_pick 3 (aCons (dVar 0) (aCons (dOp kAdd (dVar 1) (dC (.int 1))) (aCons (dC (.int 6)) aNil)))) aNil)))
    (dSeq (dSet 5 (dComp [6] (dRng1 (aCons (dC (.int 6)) aNil)) (.nm 6) (dTest (dOp kGt (dOp kIxU (dVar 2) (dVar 6)) (dC (.int 0)))) (dVar 6)))
    (dSeq (dIfS (dAnd (dTest (dOp kNe (dVar 5) (dLst aNil))) (dTest (dOp kGt (dCall F__law_pick 3 (aCons (dVar 0) (aCons (dOp kAdd (dVar 1) (dC (.int 2))) (aCons (dC (.int 4)) aNil)))) (dC (.int 0))))) (dSet 3 (dOp kIxU (dVar 5) (dCall F__law_pick 3 (aCons (dVar 0) (aCons (dOp kAdd (dVar 1) (dC (.int 3))) (aCons (dB kLen (aCons (dVar 5) aNil)) aNil)))))) dNx)
    (dRet (dOp kIxU (dLst (aCons (dTup (aCons (dC (.str (Str.mk #[97, 100, 100]))) (aCons (dVar 4) aNil))) (aCons (dTup (aCons (dC (.str (Str.mk #[97, 100, 100]))) (aCons (dVar 3) aNil))) (aCons (dTup (aCons (dC (.str (Str.mk #[100, 114, 111, 112]))) (aCons (dVar 3) aNil))) (aCons (dTup (aCons (dC (.str (Str.mk #[99, 104, 97, 110, 103, 101]))) (aCons (dVar 3) (aCons (dVar 4) aNil)))) aNil))))) (dCall F__law_pick 3 (aCons (dVar 0) (aCons (dOp kAdd (dVar 1) (dC (.int 4))) (aCons (dC (.int 4)) aNil)))))))))
def _law_deed (ns : List Int) : Fn := D__law_deed (_law_pick ns)
end Pg
set_option Elab.async false
set_option linter.all false
set_option maxRecDepth 100000
set_option maxHeartbeats 4000000
set_option autoImplicit false
namespace Wr
open PySem PySem.Spec PyProof.Rows L2
section
variable {α β : Type} (s : Sg) (h : Hs)
@[simp] theorem ev_bind_ok (a : α) (k : α → Hs → Rs β) : (Rs.ok a h).bind k = k a h := rfl
@[simp] theorem ev_bind_ex (c : Nat) (k : α → Hs → Rs β) : (Rs.ex c h : Rs α).bind k = .ex c h := rfl
@[simp] theorem ev_bind_no (k : α → Hs → Rs β) : (Rs.no : Rs α).bind k = .no := rfl
@[simp] theorem ev_bindS_ok (a : α) (k : α → Hs → RS) : (Rs.ok a h).bindS s k = k a h := rfl
@[simp] theorem ev_bindS_ex (c : Nat) (k : α → Hs → RS) : (Rs.ex c h : Rs α).bindS s k = .ex c s h := rfl
@[simp] theorem ev_bindS_no (k : α → Hs → RS) : (Rs.no : Rs α).bindS s k = .no := rfl
@[simp] theorem ev_var (i : Nat) : dVar i s h = match s[i]? with
  | some (some v) => .ok v h
  | _ => .no := rfl
@[simp] theorem ev_c (v : Va) : dC v s h = .ok v h := rfl
@[simp] theorem ev_nil : aNil s h = .ok [] h := rfl
@[simp] theorem ev_cons (f : De) (r : Da) : aCons f r s h = (f s h).bind fun x h1 => (r s h1).bind fun xs h2 => .ok (x :: xs) h2 := rfl
@[simp] theorem ev_op (k : K2) (fa fb : De) : dOp k fa fb s h = (fa s h).bind fun x h1 => (fb s h1).bind fun y h2 => liftO (k x y h2) := rfl
@[simp] theorem ev_lift_some (v : Va) : liftO (some (v, h)) = .ok v h := rfl
@[simp] theorem ev_test (f : De) : dTest f s h = (f s h).bind isB := rfl
@[simp] theorem ev_isB (b : Bool) : isB (.bl b) h = .ok b h := rfl
@[simp] theorem ev_tup (f : Da) : dTup f s h = (f s h).bind fun xs h1 => if okN xs.length then .ok (.tup xs) h1 else .no := rfl
@[simp] theorem ev_lst (f : Da) : dLst f s h = (f s h).bind mkL := rfl
@[simp] theorem ev_mkL (xs : List Va) : mkL xs h = if okN xs.length then .ok (.ref h.length) (h ++ [.lst xs]) else .no := rfl
@[simp] theorem ev_not (f : Dt) : dNot f s h = (f s h).bind fun c h1 => .ok (!c) h1 := rfl
@[simp] theorem ev_and (f k : Dt) : dAnd f k s h = (f s h).bind fun c h1 => match c with
  | true => k s h1
  | false => .ok false h1 := rfl
@[simp] theorem ev_or (f k : Dt) : dOr f k s h = (f s h).bind fun c h1 => match c with
  | true => .ok true h1
  | false => k s h1 := rfl
@[simp] theorem ev_andV (f k : De) : dAndV f k s h = (f s h).bind fun c h1 => match c with
  | .bl true => k s h1
  | .bl false => .ok (.bl false) h1
  | _ => .no := rfl
@[simp] theorem ev_orV (f k : De) : dOrV f k s h = (f s h).bind fun c h1 => match c with
  | .bl true => .ok (.bl true) h1
  | .bl false => k s h1
  | _ => .no := rfl
@[simp] theorem ev_notV (f : De) : dNotV f s h = (f s h).bind fun c h1 => match c with
  | .bl c => .ok (.bl (!c)) h1
  | _ => .no := rfl
@[simp] theorem ev_if (t : Dt) (f k : De) : dIf t f k s h = (t s h).bind fun c h1 => match c with
  | true => f s h1
  | false => k s h1 := rfl
@[simp] theorem ev_ifS (t : Dt) (f k : Ds) : dIfS t f k s h = (t s h).bindS s fun c h1 => match c with
  | true => f s h1
  | false => k s h1 := rfl
@[simp] theorem ev_nx : dNx s h = .nx s h := rfl
def andThen (r : RS) (k : Ds) : RS := match r with
  | .nx s1 h1 => k s1 h1
  | .rt v h1 => .rt v h1
  | .bk s1 h1 => .bk s1 h1
  | .ct s1 h1 => .ct s1 h1
  | .ex c s1 h1 => .ex c s1 h1
  | .no => .no
@[simp] theorem ev_seq (f k : Ds) : dSeq f k s h = andThen (f s h) k := rfl
@[simp] theorem ev_then_nx (k : Ds) : andThen (.nx s h) k = k s h := rfl
@[simp] theorem ev_then_rt (v : Va) (k : Ds) : andThen (.rt v h) k = .rt v h := rfl
@[simp] theorem ev_drop (l : List Nat) (k : Ds) : dDrop l k s h = k (maskS l 0 s) h := rfl
@[simp] theorem ev_expr (f : De) : dExpr f s h = (f s h).bindS s fun _ h1 => .nx s h1 := rfl
@[simp] theorem ev_ret (f : De) : dRet f s h = (f s h).bindS s fun v h1 => .rt v h1 := rfl
@[simp] theorem ev_set (i : Nat) (f : De) : dSet i f s h = (f s h).bindS s fun v h1 => .nx (s.set i (some v)) h1 := rfl
@[simp] theorem ev_call (F : Fn) (np : Nat) (a : Da) : dCall F np a s h = (a s h).bind fun xs h1 => if xs.length == np then callD F xs h1 else .no := rfl
@[simp] theorem ev_call0 (F : Fn) : dCall0 F s h = callD F [] h := rfl
@[simp] theorem ev_B (k : K1) (f : Da) : dB k f s h = (f s h).bind fun xs h1 => liftO (k xs h1) := rfl
@[simp] theorem ev_chain (k k' : K2) (fa fb fc : De) : dChain k k' fa fb fc s h = (fa s h).bind fun x h1 => (fb s h1).bind fun y h2 => (liftO (k x y h2)).bind fun z h3 => match z with
  | .bl true => (fc s h3).bind fun w h4 => liftO (k' y w h4)
  | .bl false => .ok (.bl false) h3
  | _ => .no := rfl
@[simp] theorem ev_le (i j : Int) : kLe (.int i) (.int j) h = some (.bl (decide (i ≤ j)), h) := rfl
@[simp] theorem ev_lt (i j : Int) : kLt (.int i) (.int j) h = some (.bl (decide (i < j)), h) := rfl
@[simp] theorem ev_ge (i j : Int) : kGe (.int i) (.int j) h = some (.bl (decide (j ≤ i)), h) := rfl
@[simp] theorem ev_gt (i j : Int) : kGt (.int i) (.int j) h = some (.bl (decide (j < i)), h) := rfl
@[simp] theorem ev_sub (i j : Int) : kSub (.int i) (.int j) h = some (.int (i - j), h) := rfl
@[simp] theorem ev_add (i j : Int) : kAdd (.int i) (.int j) h = some (.int (i + j), h) := rfl
@[simp] theorem ev_isiI (i : Int) (b : String) : kIsi [.int i, .ty b] h = (isiT "int" b).map fun r => (.bl r, h) := rfl
@[simp] theorem ev_isi1 : isiT "int" "int" = some true := by decide
@[simp] theorem ev_isi2 : isiT "int" "bool" = some false := by decide
@[simp] theorem ev_yes : dYes s h = .ok true h := rfl
@[simp] theorem ev_it (f : De) : dIt f s h = (f s h).bind itOf := rfl
@[simp] theorem ev_itOf (xs : List Va) : itOf (.tup xs) h = .ok (.tup xs) h := rfl
@[simp] theorem ev_comp (own : List Nat) (di : Di) (t : Tg) (test : Dt) (el : De) : dComp own di t test el s h = (di s h).bind fun it h1 => (compL it t test el (wipeS s own) (itLen it h1 + 1) 0 h1).bind mkL := rfl
@[simp] theorem ev_isiT (xs : List Va) (b : String) : kIsi [.tup xs, .ty b] h = (isiT "tuple" b).map fun r => (.bl r, h) := rfl
@[simp] theorem ev_isi3 : isiT "tuple" "tuple" = some true := by decide
@[simp] theorem ev_lenT (xs : List Va) : kLen [.tup xs] h = some (.int xs.length, h) := rfl
theorem bd_int (i j : Int) : (i == j) = decide (i = j) := by
  by_cases h : i = j
  · simp [h]
  · simp [h]
@[simp] theorem ev_okN (n : Nat) : okN n = decide (n ≤ 16777216) := rfl
@[simp] theorem ev_eqI (i j : Int) : kEq (.int i) (.int j) h = some (.bl (decide (i = j)), h) := by
  simp [kEq, toD, PyData.eqv, bd_int]
@[simp] theorem ev_neI (i j : Int) : kNe (.int i) (.int j) h = some (.bl (!decide (i = j)), h) := by
  simp [kNe, toD, PyData.eqv, bd_int]
/-- a comprehension over what is there -/
def compS (t : Tg) (test : Dt) (el : De) (s : Sg) : List Va → Hs → Rs (List Va)
  | [], h => .ok [] h
  | v :: vs, h => match setT t v s h with
    | none => .no
    | some s1 => match test s1 h with
      | .ok true h1 => match el s1 h1 with
        | .ok y h2 => match compS t test el s vs h2 with
          | .ok ys h3 => .ok (y :: ys) h3
          | .ex _ _ => .no
          | .no => .no
        | .ex _ _ => .no
        | .no => .no
      | .ok false h1 => compS t test el s vs h1
      | .ex _ _ => .no
      | .no => .no
theorem compS_gen (it : It') (zs : List Va) (t : Tg) (test : Dt) (el : De) (s : Sg) (hn : ∀ (i : Nat) (h : Hs), i ≤ zs.length → nxt it i h = some zs[i]?) : ∀ (f i : Nat) (h : Hs), i + f = zs.length + 1 → 0 < f → compL it t test el s f i h = compS t test el s (zs.drop i) h
  | 0, _, _, _, z => absurd z (Nat.lt_irrefl 0)
  | f + 1, i, h, e, _ => by
    unfold compL
    rw [hn i h (by omega)]
    by_cases hi : i < zs.length
    · rw [List.getElem?_eq_getElem hi, List.drop_eq_getElem_cons hi]
      simp only [compS]
      cases setT t zs[i] s h with
      | none => rfl
      | some s1 =>
        simp only
        cases test s1 h with
        | no => rfl
        | ex c h1 => rfl
        | ok b h1 =>
          cases b with
          | false => simp only; exact compS_gen it zs t test el s hn f (i + 1) h1 (by omega) (by omega)
          | true =>
            simp only
            cases el s1 h1 with
            | no => rfl
            | ex c h2 => rfl
            | ok y h2 =>
              simp only
              rw [compS_gen it zs t test el s hn f (i + 1) h2 (by omega) (by omega)]
              all_goals (cases compS t test el s (zs.drop (i + 1)) h2 <;> rfl)
    · rw [List.getElem?_eq_none (by omega), List.drop_of_length_le (by omega)]
      rfl
@[simp] theorem ev_compT (xs : List Va) (t : Tg) (test : Dt) (el : De) : compL (.tup xs) t test el s (itLen (.tup xs) h + 1) 0 h = compS t test el s xs h :=
  compS_gen (.tup xs) xs t test el s (fun _ _ _ => rfl) (xs.length + 1) 0 h (by omega) (by omega)
def zipV : List Va → List Va → List Va
  | x :: xs, y :: ys => .tup [x, y] :: zipV xs ys
  | _, _ => []
theorem zipV_len : ∀ xs ys : List Va, (zipV xs ys).length = min xs.length ys.length
  | [], ys => by simp [zipV]
  | x :: xs, [] => by simp [zipV]
  | x :: xs, y :: ys => by simp only [zipV, List.length_cons, zipV_len xs ys]; omega
theorem zipV_get : ∀ (xs ys : List Va) (i : Nat), (zipV xs ys)[i]? = match xs[i]?, ys[i]? with
    | some x, some y => some (.tup [x, y])
    | _, _ => none
  | [], ys, i => by simp [zipV]
  | x :: xs, [], i => by
    simp only [zipV, List.getElem?_nil]
    cases (x :: xs)[i]? <;> rfl
  | x :: xs, y :: ys, 0 => by simp [zipV]
  | x :: xs, y :: ys, i + 1 => by simpa [zipV] using zipV_get xs ys i
@[simp] theorem ev_compZ (xs ys : List Va) (t : Tg) (test : Dt) (el : De) : compL (.zip (.tup xs) (.tup ys)) t test el s (itLen (.zip (.tup xs) (.tup ys)) h + 1) 0 h = compS t test el s (zipV xs ys) h := by
  refine compS_gen _ (zipV xs ys) t test el s (fun i h' hi => ?_) _ 0 h (by rw [zipV_len]; simp [itLen]) (by omega)
  rw [zipV_len] at hi
  have hc : (decide (i ≤ itLen (.tup xs) h') && decide (i ≤ itLen (.tup ys) h')) = true := by
    show (decide (i ≤ xs.length) && decide (i ≤ ys.length)) = true
    simp; omega
  unfold nxt
  rw [if_pos hc, zipV_get]
  simp only [nxt]
  cases xs[i]? with
  | none => rfl
  | some x => cases ys[i]? <;> rfl
@[simp] theorem ev_zip (f : Da) : dZipS f s h = (f s h).bind fun vs h1 => match vs with
  | [x, y] => if noStr x && noStr y then pairIt x y h1 else .no
  | _ => .no := rfl
@[simp] theorem ev_noStr (xs : List Va) : noStr (.tup xs) = true := rfl
@[simp] theorem ev_pairIt (xs ys : List Va) : pairIt (.tup xs) (.tup ys) h = .ok (.zip (.tup xs) (.tup ys)) h := rfl
@[simp] theorem ev_setT2 (i j : Nat) (x y : Va) : setT (.tp [i, j]) (.tup [x, y]) s h = some ((s.set i (some x)).set j (some y)) := rfl
@[simp] theorem ev_mul_r (i j : Int) (h1 : -18446744073709551616 < j) (h2 : j < 18446744073709551616) : kMul (.int i) (.int j) h = some (.int (i * j), h) := by
  unfold kMul
  simp only
  rw [if_pos]
  unfold mulOk
  rw [decide_eq_true (show -(2 ^ 64) < j by omega), decide_eq_true (show j < 2 ^ 64 by omega)]
  simp
@[simp] theorem ev_mul_l (i j : Int) (h1 : -18446744073709551616 < i) (h2 : i < 18446744073709551616) : kMul (.int i) (.int j) h = some (.int (i * j), h) := by
  unfold kMul
  simp only
  rw [if_pos]
  unfold mulOk
  rw [decide_eq_true (show -(2 ^ 64) < i by omega), decide_eq_true (show i < 2 ^ 64 by omega)]
  simp
@[simp] theorem ev_sum (r : Nat) : kSumA [.ref r] h = (lstArg [.ref r] h).bind fun ys => (intsV ys).map fun ns => (.int ns.sum, h) := rfl
@[simp] theorem ev_ints0 : intsV [] = some [] := rfl
@[simp] theorem ev_ints1 (i : Int) (l : List Va) : intsV (.int i :: l) = (intsV l).map fun r => i :: r := by
  cases e : intsV l with
  | none => simp [intsV, e]
  | some r => simp [intsV, e]
@[simp] theorem ev_compS_nil (t : Tg) (test : Dt) (el : De) : compS t test el s [] h = .ok [] h := rfl
@[simp] theorem ev_compS_cons (t : Tg) (test : Dt) (el : De) (v : Va) (vs : List Va) : compS t test el s (v :: vs) h = match setT t v s h with
    | none => .no
    | some s1 => match test s1 h with
      | .ok true h1 => match el s1 h1 with
        | .ok y h2 => match compS t test el s vs h2 with
          | .ok ys h3 => .ok (y :: ys) h3
          | .ex _ _ => .no
          | .no => .no
        | .ex _ _ => .no
        | .no => .no
      | .ok false h1 => compS t test el s vs h1
      | .ex _ _ => .no
      | .no => .no := rfl
@[simp] theorem ev_setT (i : Nat) (v : Va) : setT (.nm i) v s h = some (s.set i (some v)) := rfl
@[simp] theorem ev_wipe0 : wipeS s [] = s := rfl
@[simp] theorem ev_wipe1 (i : Nat) (l : List Nat) : wipeS s (i :: l) = (wipeS s l).set i none := rfl
/-- lists told by the heap -/
@[simp] theorem ev_lstArg (r : Nat) : lstArg [.ref r] h = match h[r]? with
  | some (.lst ys) => some ys
  | _ => none := rfl
@[simp] theorem ev_all (xs : List Va) : kAll xs h = (lstArg xs h).bind fun ys => (bls ys).map fun bs => (.bl (bs.all id), h) := rfl
@[simp] theorem ev_bls0 : bls [] = some [] := rfl
@[simp] theorem ev_bls1 (b : Bool) (l : List Va) : bls (.bl b :: l) = (bls l).map fun r => b :: r := by
  cases e : bls l with
  | none => simp [bls, e]
  | some r => simp [bls, e]
end
end Wr
namespace Pg
open PySem PySem.Spec PyProof.Rows L2 Wr
theorem whole_ok (i lo hi : Int) (h1 : lo ≤ i) (h2 : i ≤ hi) : is_whole [.int i, .int lo, .int hi] [] = .ok (.bl true) [] := by
  simp [is_whole, D_is_whole, fnD, h1, h2, toRs, compact]
theorem book_ok (a b c d e f : Int) (h : ∀ x ∈ [a, b, c, d, e, f], 0 ≤ x ∧ x ≤ 99) : is_book [.tup [.int a, .int b, .int c, .int d, .int e, .int f]] [] = .ok (.bl true) [] := by
  have w : ∀ (x : Int) (h : Hs), 0 ≤ x ∧ x ≤ 99 → callD is_whole [.int x, .int 0, .int 99] h = .ok (.bl true) h := fun x h hx => callD_flat rfl rfl rfl (whole_ok x 0 99 hx.1 hx.2)
  simp only [List.mem_cons, List.not_mem_nil, or_false, forall_eq_or_imp, forall_eq] at h
  obtain ⟨h0, h1, h2, h3, h4, h5⟩ := h
  simp [is_book, D_is_book, fnD, c_GREATEST, w, h0, h1, h2, h3, h4, h5]
  rfl
theorem look_book_ok (a b c d e f : Int) (h : ∀ x ∈ [a, b, c, d, e, f], 0 ≤ x ∧ x ≤ 99) : look_book [.tup [.int a, .int b, .int c, .int d, .int e, .int f]] [] = .ok .non [] := by
  have w : ∀ h', callD is_book [.tup [.int a, .int b, .int c, .int d, .int e, .int f]] h' = .ok (.bl true) h' := fun h' => callD_flat rfl rfl rfl (book_ok a b c d e f h)
  simp [look_book, D_look_book, fnD, w, toRs, compact]
/-- who is ahead -/
abbrev Bk (a b c d e f : Int) : Va := .tup [.int a, .int b, .int c, .int d, .int e, .int f]
/-- swaps of two rankings -/
def wv : Nat → Va
  | 0 => .tup [.int 0, .int 1, .int 2]
  | 1 => .tup [.int 0, .int 2, .int 1]
  | 2 => .tup [.int 1, .int 0, .int 2]
  | 3 => .tup [.int 1, .int 2, .int 0]
  | 4 => .tup [.int 2, .int 0, .int 1]
  | _ => .tup [.int 2, .int 1, .int 0]
theorem lt6 {i : Nat} (h : i < 6) : i = 0 ∨ i = 1 ∨ i = 2 ∨ i = 3 ∨ i = 4 ∨ i = 5 := by omega
theorem cell_ok (ns : List Int) (k : Int) (hk : 0 ≤ k) : ∃ c, _law_cell ns [.scr, .int k] [] = .ok (.int c) [] := by
  by_cases h1 : k < (ns.length : Int)
  · obtain ⟨j, rfl⟩ := Int.eq_ofNat_of_zero_le hk
    have h2 : j < ns.length := by omega
    have e : L2.atI ns (j : Int) = some ns[j] := by
      unfold L2.atI ixN
      rw [if_pos (by omega), if_pos (by omega)]
      simp [List.getElem?_eq_getElem h2]
    exact ⟨ns[j], by simp [_law_cell, D__law_cell, fnD, kLenS, h1, h2, kIxS, e, toRs, compact]⟩
  · cases ns with
    | nil =>
      have h6 : ¬ k < 0 := by omega
      exact ⟨0, by simp [_law_cell, D__law_cell, fnD, kLenS, kEqS, eqNil, h6, toRs]; rfl⟩
    | cons x t =>
      have h0 : (0 : Int) < ((x :: t).length : Int) := by simp only [List.length_cons]; omega
      have h3 := Int.emod_nonneg k (by omega : ((x :: t).length : Int) ≠ 0)
      have h4 := Int.emod_lt_of_pos k h0
      obtain ⟨j, hj⟩ := Int.eq_ofNat_of_zero_le h3
      rw [hj] at h4
      have h5 : j < (x :: t).length := by omega
      generalize hL : ((x :: t).length : Int) = L at *
      have e : L2.atI (x :: t) (k % L) = some (x :: t)[j] := by
        rw [hj]
        unfold L2.atI ixN
        rw [if_pos (by omega), if_pos (by omega)]
        simp [List.getElem?_eq_getElem h5]
      refine ⟨(x :: t)[j] * 31 + k, ?_⟩
      have e2 : kMod (.int k) (.int L) [.lst []] = some (.int (k % L), [.lst []]) := by
        unfold kMod
        simp only
        rw [if_pos (decide_eq_true h0)]
      have e3 : ∀ h : Hs, kLenS (x :: t) [.scr] h = some (.int L, h) := fun h => by rw [← hL]; rfl
      simp [_law_cell, D__law_cell, fnD, e3, h1, kEqS, eqNil, e2, kIxS, e, toRs]
      rfl
end Pg
set_option Elab.async false
set_option linter.all false
set_option maxRecDepth 100000
set_option maxHeartbeats 4000000
set_option autoImplicit false
namespace Wr
open PySem PySem.Spec PyProof.Rows L2
@[simp] theorem ev_append (r : Nat) (y : Va) (h : Hs) : kAppend (.ref r) [y] h = match h[r]? with
  | some (.lst ys) => if okN (ys.length + 1) then some (.non, h.set r (.lst (ys ++ [y]))) else none
  | _ => none := rfl
@[simp] theorem ev_M (T : String) (k : KM) (fo : De) (fa : Da) (s : Sg) (h : Hs) : dM T k fo fa s h = (fo s h).bind fun x h1 => match isTy T x h1 with
  | true => (fa s h1).bind fun xs h2 => liftO (k x xs h2)
  | false => .no := rfl
@[simp] theorem ev_isTyR (T : String) (r : Nat) (h : Hs) : isTy T (.ref r) h = match h[r]? with
  | some (.lst _) => T == "list"
  | _ => false := rfl
@[simp] theorem ev_intB (b : Bool) (h : Hs) : kInt [.bl b] h = some (.int (if b then 1 else 0), h) := rfl
@[simp] theorem ev_intI (b : Int) (h : Hs) : kInt [.int b] h = some (.int b, h) := rfl
def rngV (lo : Int) (n : Nat) : List Va := (List.range n).map fun (i : Nat) => .int (lo + (i : Int))
theorem rngV_nxt (lo : Int) (n i : Nat) (h : Hs) : nxt (.rng lo n) i h = some (rngV lo n)[i]? := by
  simp only [nxt, rngV, List.getElem?_map]
  by_cases hi : i < n
  · rw [if_pos hi, List.getElem?_range hi]; rfl
  · rw [if_neg hi, List.getElem?_eq_none (by simp; omega)]; rfl
end Wr
namespace Pg
open PySem PySem.Spec PyProof.Rows L2 Wr
end Pg
set_option Elab.async false
set_option linter.all false
set_option maxRecDepth 100000
set_option maxHeartbeats 4000000
set_option autoImplicit false
namespace Wr
open PySem PySem.Spec PyProof.Rows L2
end Wr
namespace Pg
open PySem PySem.Spec PyProof.Rows L2 Wr
section
variable (a b c d e f : Int)
abbrev Bok (a b c d e f : Int) : Prop := ∀ x ∈ [a, b, c, d, e, f], 0 ≤ x ∧ x ≤ 99
theorem look_call (hb : Bok a b c d e f) (h : Hs) : callD look_book [Bk a b c d e f] h = .ok .non h := callD_flat rfl rfl rfl (look_book_ok a b c d e f hb)
end
end Pg
set_option Elab.async false
set_option linter.all false
set_option maxRecDepth 100000
set_option maxHeartbeats 4000000
set_option autoImplicit false
namespace Wr
open PySem PySem.Spec PyProof.Rows L2
end Wr
set_option Elab.async false
set_option linter.all false
set_option maxRecDepth 100000
set_option maxHeartbeats 4000000
set_option autoImplicit false
namespace Wr
open PySem PySem.Spec PyProof.Rows L2
/-- the promise with the handled exception at hand -/
def Gd.hotAt (g : Gd) (p : Addr × Obj) : Gd := ⟨g.K, g.G, g.sa, g.ns, g.T, some p⟩
theorem start_rsl {g : Gd} {ρ : List Addr} {H : Hp} {xs : List Va} {vs : List V} {N : List Str} {nN : Nat} (r : Rvs g ρ H xs vs) (hN : N.length = nN) : Rsl g ρ H (xs.map some ++ List.replicate (nN - xs.length) none) (L2.start N vs) := by
  have hx := r.length
  refine ⟨by simp [L2.start, hN, hx], fun i x e => ?_⟩
  by_cases hi : i < xs.length
  · rw [List.getElem?_append_left (by simpa using hi), List.getElem?_map] at e
    obtain ⟨y, ey, e2⟩ := Option.map_eq_some_iff.mp e
    cases e2
    obtain ⟨v, ev, rv⟩ := r.get ey
    refine ⟨v, ?_, rv⟩
    unfold L2.start
    rw [List.getElem?_append_left (by simp; omega), List.getElem?_map, ev]
    rfl
  · rw [List.getElem?_append_right (by simp; omega), List.getElem?_replicate] at e
    split at e <;> cases e
theorem hot_run {CX : CXT} {P : Program} {w : World} {K : PySem.W.Frag} {mg : Str → Option Value} {base : Heap} {x qual : Str} {params : Arguments} {bd : List Stmt} {sc : Scope} {fd : FuncData} {f : Addr} {N ps : List Str} (F : FunD K x qual params bd sc [] [] f fd) (S : FnScope N ps sc)
    {A : Around} {outer : List Env} {s : Shared} {H : Hp} {args : Args} {us : List Value} {vs : List V} {Q : VK} {E : XK} {p : Addr × Obj} (hd : A.depth < recursionLimit) (hpin : L2H.PinOk outer H s p) (e0 : Env0 P w K mg base A outer s H) (hb : BindsTo s fd args (ps.zip us)) (r : Vals vs us) (hl : vs.length = ps.length)
    (hbody : ∀ cdv, ∃ t, PSs (L2H.cxH CX P w K mg base N qual sc f cdv A outer s H E p) bd t ∧ t { nx := fun _ H' => Q .non H', rt := Q } (L2.start N vs) H) : codeAny (model P w) A (.call (.ref f) args) (CR CX outer P w H s Q E) s := by
  obtain ⟨oc, od, dV, kV, doc, pm, an, cdv, ct, osl, rfl, lk, hcd, _, _⟩ := F.ex
  have inK : K.In s.heap := e0.mod.kin.keeps fun b o e => (e0.bs b o e).1
  have nol : s.heap.NoLimit := e0.mod.nolimit.keeps fun b o e => (e0.bs b o e).1
  have kinds : ∀ y ∈ ps.zip us, sc.names.lookup y.1 = some .local ∨ (sc.names.lookup y.1 = some .cell ∧ ((cellsFrom (s.heap.objs.size + 1) sc.names []).lookup y.1).isSome = true) := by
    rintro ⟨n, v⟩ hy
    have := S.par n (List.of_mem_zip hy).1
    exact this.imp id fun q => ⟨q, PySem.W.cellsFrom_some _ _ _ (.inl q)⟩
  apply codeAny_call_function hd (inK _ _ lk) rfl S.co S.gen rfl (PySem.W.codeRec_of inK hcd)
  apply hb
  refine wpAny_newFunctionEnv_cells S.kind kinds fun env he st x => ?_
  subst he
  obtain ⟨t, ht, hq⟩ := hbody cdv
  have J := L2H.inv_startH (CX := CX) (E := E) S hpin e0 hl r x
  refine ⟨nol.keeps x.toInCall.keep, codeAny_func (wpAny_mono (ht.run [] st (L2.start N vs) H _ J hq) (fun fl z hs => ?_) fun e z hs => hs)⟩
  cases fl with
  | ret u =>
    obtain ⟨v, σ', H', J', rv, q⟩ := hs
    exact ⟨v, H', J'.os, J'.bare, J'.base, J'.hok, rv, q⟩
  | next =>
    obtain ⟨σ', H', J', q⟩ := hs
    exact ⟨V.non, H', J'.os, J'.bare, J'.base, J'.hok, rfl, q⟩
  | brk => exact hs.elim fun _ z => z.elim fun _ z => z.2.elim
  | cont => exact hs.elim fun _ z => z.elim fun _ z => z.2.elim
/-- what a def tells of the handled exception of the class c: a text -/
def HotT (P : Program) (w : World) (g : Gd) (mg : Str → Option Value) (base : Heap) (x : Str) (c : Nat) (wd : Str) : Prop :=
  mg x = some (.ref (He.ga g.K x)) ∧ PySem.W.keepIn g.K (.ref (He.ga g.K x)) = true ∧
  ∀ (A : Around) (outer : List Env) (s : Shared) (H : Hp) (a : Addr) (oe : Obj) (Q : VK) (E : XK), A.depth < recursionLimit → A.units + 200 < cLine → L2H.PinOk outer H s (a, oe) → oe.cls = .ref (g.G c) → oe.dict = none → (∃ vs, oe.data = .fields vs) → Env0 P w g.K mg base A outer s H → LamX.Tabs g.T H →
    (∀ ρ' H', Sp1 [] H ρ' H' → LamX.Tabs g.T H' → Q (.str wd) H') → codeAny (model P w) A (.call (.ref (He.ga g.K x)) ⟨[.ref a], []⟩) (CR (L2.CX P w) outer P w H s Q E) s
theorem hot_fn {P : Program} {w : World} {g : Gd} {mg : Str → Option Value} {base : Heap} {x : Str} {st : Stmt} {N : List Str} {y : Str} {nN : Nat} {b : Ds} {c : Nat} {wd : Str} {hz : Hs} (F : FnP g.K x st) (hm : mg x = some (.ref (He.ga g.K x))) (hb : BindsAll x st [y]) (S : FnScope N [y] (defScope st)) (hN : N.length = nN)
    (body : ∀ (p : Addr × Obj) (f : Addr) (cdv : Value) (A : Around) (outer : List Env) (s : Shared) (H : Hp) (E : XK), SB (g.hotAt p) (L2H.cxH (L2.CX P w) P w g.K mg base N x (defScope st) f cdv A outer s H E p) W0 0 (defBody st) b)
    (he : fnD nN b [.exc c] [] = .ok (.str wd) hz) : HotT P w g mg base x c wd := by
  obtain ⟨fd, F⟩ := F
  refine ⟨hm, F.kp, fun A outer s H a oe Q E hd hu hpin h1 h2 h3 e0 tb q => ?_⟩
  have bnd := F.bindsN hb s [.ref a] (e0.mod.kin.keeps fun b o e => (e0.bs b o e).1) rfl
  refine hot_run (us := [.ref a]) (vs := [.ref a]) (p := (a, oe)) F S hd hpin e0 (by simpa using bnd) (.cons rfl .nil) rfl fun cdv => ?_
  have rx : Rvs (g.hotAt (a, oe)) [] H [.exc c] [.ref a] := Rvs.one (by simp only [Rv]; exact ⟨a, oe, rfl, .inr rfl, h1, h2, h3⟩)
  refine ⟨_, body (a, oe) (He.ga g.K x) cdv A outer s H E ⟨rfl, takes0M, fun z => absurd rfl z, S.nd, fun z => absurd rfl z, fun z => absurd rfl z, ?_⟩, [], [.exc c].map some ++ List.replicate (nN - [Va.exc c].length) none, [], ⟨rfl, List.nodup_nil, tb, fun i a o h1 h2 => by simp at h1⟩, start_rsl rx hN, ?_⟩
  · show A.units + 3 + 100 < cLine
    omega
  · have he2 : compact ([] : List Addr).length (toRs (b ([Va.exc c].map some ++ List.replicate (nN - [Va.exc c].length) none) [])) = .ok (.str wd) hz := he
    have q1 : PoE (g.hotAt (a, oe)) [] H (.ok (.str wd) hz) Q (fun _ _ _ => False) := fun ρ' H' z S1 R1 rz => by
      simp only [Rv] at rz
      subst rz
      exact q ρ' H' S1 R1.tab
    rw [← he2] at q1
    have q2 := compact_ok q1
    cases qb : b ([Va.exc c].map some ++ List.replicate (nN - [Va.exc c].length) none) [] with
    | nx s1 h1 => rw [qb] at q2; exact fun ρ1 H1 σ1 S1 R1 L1 => q2 ρ1 H1 .non S1 R1 (by simp only [Rv])
    | rt v h1 => rw [qb] at q2; exact q2
    | ex c s1 h1 => rw [qb] at q2; exact fun ρ1 H1 σ1 S1 R1 L1 => q2 ρ1 H1 S1 R1
    | bk s1 h1 => rw [qb] at q2; exact q2.elim
    | ct s1 h1 => rw [qb] at q2; exact q2.elim
    | no => rw [qb] at q2; exact q2.elim
/-- the call, in the suite -/
theorem pe_hot {X : Cx} {g : Gd} {a : Addr} {oe : Obj} {pn : List (Addr × Obj)} {y n : Str} {i : Nat} {p1 p2 pos : Pos} {cls : Value} {d : Option Addr} {wd : Nat → Str} {cl : List Nat} (hK : X.K = g.K) (HT : ∀ c ∈ cl, HotT X.prog X.w g X.mg X.base y c (wd c)) (hd : X.A.depth < recursionLimit) (hu : X.A.units + 200 < cLine)
    (hz : Zc cls d oe) (hf : ∃ vs, oe.data = .fields vs) (hg : X.env.scope.names.lookup y = some .globalImplicit) (hN : X.N[i]? = some n) (hv : Vis X.env.scope n)
    (hdb : (y == ("__debug__" : Str)) = false := by decide) (hn1 : (n == ("__debug__" : Str)) = false := by decide) (hn2 : (n == ("__classdict__" : Str)) = false := by decide) :
    PE (X.suite a ((a, oe) :: pn)) (.Call (.Name y p1) [.Name n p2] [] pos)
      (fun σ H Q => (i < σ.length → σ[i]? = some (some (.ref a))) ∧ d = none ∧ LamX.Tabs g.T H ∧ ∃ c, c ∈ cl ∧ cls = .ref (g.G c) ∧ ∀ ρ' H', Sp1 [] H ρ' H' → LamX.Tabs g.T H' → Q (.str (wd c)) H') := by
  refine ⟨fun pins s σ H Q I ⟨hs, hdn, ht, c, hc, hcl, hq⟩ => ?_⟩
  obtain ⟨h1, h2, h3⟩ := HT c hc
  have hgl : Gl (X.suite a ((a, oe) :: pn)) y := hg
  refine wpAny_Call_Name_kw (ld_glob I hgl h1 ?_ hdb)
  have ha : PA (X.suite a ((a, oe) :: pn)) [.Name n p2] (tCons (tVar i) tNil) := pa_cons (pe_var hN hv hn1 hn2) pa_nil
  refine PySem.W.callWith_K (h₀ := X.base) I.ok.mod.kin (by show PySem.W.keepIn X.K _ = true; rw [hK]; exact h2) (thn (ha.run pos pins s σ H (fun vs H1 => vs = [.ref a] ∧ H1 = H) I ⟨.ref a, hs (by rw [I.len]; exact (List.getElem?_eq_some_iff.mp hN).1), rfl, rfl⟩) fun us s1 ⟨vs, H1, I1, r, q⟩ => ⟨I1.kIn, ?_⟩) rfl rfl
  obtain ⟨rfl, rfl⟩ := q
  cases r with
  | cons rx rr =>
    cases rr
    cases rx
    obtain ⟨pg, pf, pl, ps, pc⟩ := I1.pin (a, oe) (List.mem_append_left _ List.mem_cons_self)
    have pin : L2H.PinOk X.stack H1 s1 (a, oe) := ⟨pg, pf, fun hm => (List.mem_cons.mp (I1.stkSub a hm)).elim pl ps, pc⟩
    have rc := h3 (X.suite a ((a, oe) :: pn)).A X.stack s1 H1 a oe Q (fun _ _ _ => False) hd hu pin (hz.1.trans hcl) (hz.2.trans hdn) hf (by have := I1.env0; rw [← hK]; exact this) ht hq
    refine wpAny_call (codeAny_mono rc fun r s' z => ?_)
    cases r with
    | error e =>
      obtain ⟨_, _, _, _, _, _, _, _, _, _, _, _, z⟩ := (show L2.CX X.prog X.w X.stack H1 s1 (fun _ _ _ => False) e s' from z)
      exact z.elim
    | ok fl =>
      cases fl with
      | ret u => exact I1.after z
      | next => exact False.elim z
      | brk => exact False.elim z
      | cont => exact False.elim z
theorem Rh.all {g : Gd} {ρ : List Addr} {H H1 : Hp} {hp : Hs} (R : Rh g ρ H hp) (k : ∀ b o, H b = some o → NT o → H1 b = some o) (t : LamX.Tabs g.T H1) : Sp1 ρ H ρ H1 ∧ Rh g ρ H1 hp := by
  have S : Sp1 ρ H ρ H1 := ⟨List.prefix_refl _, fun _ h => .inl h, fun b o hb _ nt => k b o hb nt, fun b o u hb => k _ _ hb (fun _ z => nomatch z)⟩
  refine ⟨S, R.len, R.nd, t, fun i a x h1 h2 => ?_⟩
  have q := R.obj i a x h1 h2
  have qk : ∀ u, H a = some u → H1 a = some u := fun u e => k _ _ e (q.nt e)
  cases x with
  | lst xs => obtain ⟨vs, e, r⟩ := q; exact ⟨vs, qk _ e, Rvs.step R S _ _ r⟩
  | dK xs => obtain ⟨vs, e, r⟩ := q; exact ⟨vs, qk _ e, Rkv.step R S _ _ r⟩
  | dT xs => obtain ⟨vs, e, r⟩ := q; exact ⟨vs, e.keep qk (fun _ _ z => SqN.step R S z), Rkv.step R S _ _ r⟩
  | dU xs => obtain ⟨vs, e, r⟩ := q; exact ⟨vs, e.keep qk (fun _ _ z => SqN.step R S z), Rkv.step R S _ _ r⟩
  | ins c xs => obtain ⟨dx, vs, e, r⟩ := q; exact ⟨dx, vs, qk _ e, Rkv.step R S _ _ r⟩
  | dF xs => obtain ⟨dx, vs, e, r⟩ := q; exact ⟨dx, vs, qk _ e, Rkv.step R S _ _ r⟩
def toldX (g : Gd) (cl : List Nat) (wd : Nat → Str) (Q : VK) : XK := fun cls d H' => d = none ∧ LamX.Tabs g.T H' ∧ ∃ c, c ∈ cl ∧ cls = .ref (g.G c) ∧ ∀ ρ' H2, Sp1 [] H' ρ' H2 → LamX.Tabs g.T H2 → Q (.str (wd c)) H2
def TTo (g : Gd) (cl : List Nat) (wd : Nat → Str) : (XK → Hp → VK → Prop) → Hp → VK → Prop := fun tl H Q => tl (toldX g cl wd Q) H Q
def IsTold (st : Stmt) (a e n y : Str) : Prop := ∃ p1 p2 p3 p4 p5 p6 p7 p8 p9 p10 : Pos,
  defBody st = [.Try [.Return (some (.Call (.Name a p1) [] [] p2)) p3] [.ExceptHandler (some (.Name e p4)) (some n) [.Return (some (.Call (.Name y p5) [.Name n p6] [] p7)) p8] p9] [] [] p10]
theorem told_gives {X : Cx} {g : Gd} {Ng : List Str} {x a e n y q : Str} {sg : Scope} {gf : Addr} {cdg : Value} {i : Nat} {cl : List Nat} {wd : Nat → Str} {p1 p2 p3 p4 p5 p6 p7 p8 p9 p10 : Pos} (hK : X.K = g.K) (HT : ∀ c ∈ cl, HotT X.prog X.w g X.mg X.base y c (wd c)) (E : Exn g X.mg cl) (hr : Room 2 X.A) (h0 : 0 ∈ cl) (he : clsNm 0 = e)
    (hnd : Ng.Nodup) (hN0 : Ng[0]? = some a) (hi : Ng[i]? = some n) (hln : sg.names.lookup n = some .local) (hge : sg.names.lookup e = some .globalImplicit) (hgy : sg.names.lookup y = some .globalImplicit)
    (hde : (e == ("__debug__" : Str)) = false) (hdy : (y == ("__debug__" : Str)) = false) (hn1 : (n == ("__debug__" : Str)) = false) (hn2 : (n == ("__classdict__" : Str)) = false) :
    LamX.GivesTo X Ng x sg gf cdg [.Try [.Return (some (.Call (.Name a p1) [] [] p2)) p3] [.ExceptHandler (some (.Name e p4)) (some n) [.Return (some (.Call (.Name y p5) [.Name n p6] [] p7)) p8] p9] [] [] p10] a q (TTo g cl wd) := by
  intro f c' s H Q tl act hc h
  subst he
  have hgl : Gl (cxOf C8.CX0 X.prog X.w X.K X.mg X.base Ng x sg gf cdg X.A X.stack s H C8.E0).nox (clsNm 0) := hge
  have tr := ps_try_as (X := (cxOf C8.CX0 X.prog X.w X.K X.mg X.base Ng x sg gf cdg X.A X.stack s H C8.E0).nox) (x := clsNm 0) (n := n) (c := .ref (g.G 0)) (i := i) (np := p4) (pos := p10) (pos' := p9) (Wout := fun _ _ _ _ => False)
    (body := [.Return (some (.Call (.Name a p1) [] [] p2)) p3]) (b₀ := .Return (some (.Call (.Name y p5) [.Name n p6] [] p7)) p8) (suite := [])
    (tb := fun W D σ H => ∃ Ech : XK, (∀ cls d σ' H', Ech cls d H' → W cls d σ' H') ∧ σ[0]? = some (some (.ref f)) ∧ H c' = some (LamX.CodeO c' q) ∧ tl Ech H D.rt)
    (ts := fun a cls d => tRet fun σ H Q => (i < σ.length → σ[i]? = some (some (.ref a))) ∧ d = none ∧ LamX.Tabs g.T H ∧ ∃ c, c ∈ cl ∧ cls = .ref (g.G c) ∧ ∀ ρ' H', Sp1 [] H ρ' H' → LamX.Tabs g.T H' → Q (.str (wd c)) H')
    rfl rfl hnd hi hln ⟨hgl, hde, .inl (E.mg 0 h0)⟩ LamX.takes0 (fun W pn xe tk _ => ?_) (fun a oe cls d pn hz hv => ?_)
  · refine ⟨_, pss_one tr, toldX g cl wd Q, fun cls d σ' H' hx => ?_, ?_, hc, h⟩
    · obtain ⟨hd, ht, c, hcl, rfl, hq⟩ := hx
      refine ⟨true, ?_, fun _ b _ => ⟨fun hlt => by rw [List.getElem?_set_self (by simpa using hlt)], hd, ht, c, hcl, rfl, hq⟩, fun z => nomatch z⟩
      show PySem.W.exmOne X.K _ _ = _
      rw [hK, E.exm c hcl 0 h0]
      simp [subC]
    · unfold L2.start
      rfl
  · refine ⟨fun pins s' σ H' D I h' => ?_⟩
    obtain ⟨Ech, hW, h1, h2, h3⟩ := h'
    exact (pss_one (ps_ret (pos := p3) (act W pn xe Ech p1 p2 tk hW))).run pins s' σ H' D I ⟨h1, h2, h3⟩
  · have d1 := hr.dp
    have d2 := hr.un
    refine pss_one (ps_ret (pe_hot (X := (cxOf C8.CX0 X.prog X.w X.K X.mg X.base Ng x sg gf cdg X.A X.stack s H C8.E0).nox) (i := i) hK HT ?_ ?_ hz hv hgy hi (.inl hln) hdy hn1 hn2))
    · show X.A.depth + 1 < _
      omega
    · show X.A.units + 3 + 200 < _
      omega
def dTold (cl : List Nat) (wd : Nat → Str) (f : De) : De := fun s h => match f s h with
  | .ok v h1 => .ok v h1
  | .ex c h1 => if cl.contains (c % 100) then .ok (.str (wd (c % 100))) h1 else .no
  | .no => .no
theorem e_told {X : Cx} {g : Gd} {W : WX} {k : Nat} {x y a e n : Str} {st : Stmt} {Ng : List Str} {i : Nat} {cl : List Nat} {wd : Nat → Str} {params : Arguments} {body : Expr} {scope : Scope} {lpos p pos : Pos} {f : De} {c P : Addr} (F : FnP g.K x st) (hm : X.mg x = some (.ref (He.ga g.K x))) (hb : BindsAll x st [a]) (Sg : FnScope Ng [a] (defScope st))
    (hT : IsTold st a e n y) (HT : ∀ c ∈ cl, HotT X.prog X.w g X.mg X.base y c (wd c)) (E : Exn g X.mg cl) (TB : LamX.TabB X.base X.mg c P) (hcode : X.env.code = .ref c) (hmT : (P, X.env.qual ++ "<lambda>") ∈ g.T) (hu : ∀ p ∈ g.T, p.1 = P → p.2 = X.env.qual ++ "<lambda>") (hK : X.K = g.K)
    (hbody : ∀ (A : Around) (outer : List Env) (s : Shared) (H : Hp) (E : XK) (fa c' : Addr), SE g (LamX.lamCx X A outer s H E scope fa c') (fun cls _ _ H' => E cls none H') (k + 1) body f)
    (h0 : 0 ∈ cl := by decide) (he : clsNm 0 = e := by rfl) (hN0 : Ng[0]? = some a := by rfl) (hva : Vis (defScope st) a := by first | exact .inl rfl | exact .inr (.inl rfl)) (hi : Ng[i]? = some n := by rfl) (hln : (defScope st).names.lookup n = some .local := by rfl) (hge : (defScope st).names.lookup e = some .globalImplicit := by rfl)
    (hgy : (defScope st).names.lookup y = some .globalImplicit := by rfl) (hg : Gl X x := by rfl) (L : LamX.LamS X.env.scope scope := by exact LamX.lamS_by (by kernel_rfl)) (hdef : defaultsOf params X.env = ([], []) := by rfl)
    (hbind : ∀ (q : Str) (cl : List (Str × Addr)) (pm cv ctv : Value), bindArgs (PySem.W.kla_fn "<lambda>" q params body scope cl pm cv ctv) ⟨[], []⟩ = pure [] := by intros; rfl)
    (hdx : (x == ("__debug__" : Str)) = false := by decide) (hda : (a == ("__debug__" : Str)) = false := by decide) (hca : (a == ("__classdict__" : Str)) = false := by decide)
    (hde : (e == ("__debug__" : Str)) = false := by decide) (hdy : (y == ("__debug__" : Str)) = false := by decide) (hn1 : (n == ("__debug__" : Str)) = false := by decide) (hn2 : (n == ("__classdict__" : Str)) = false := by decide) :
    SE g X W (k + 3) (.Call (.Name x p) [.Lambda params body scope lpos] [] pos) (dTold cl wd f) := by
  intro C
  obtain ⟨fd, F⟩ := F
  have hbn := F.bindsN hb
  have hkp := F.kp
  obtain ⟨oc, od, dV, kV, doc, pm, an, cdv, ct, osl, rfl, lk, hcd, _, _⟩ := F.ex
  obtain ⟨p1, p2, p3, p4, p5, p6, p7, p8, p9, p10, hbd⟩ := hT
  have hG : LamX.GivesTo X Ng x (defScope st) (He.ga g.K x) cdv (defBody st) a (X.env.qual ++ "<lambda>") (TTo g cl wd) := by
    rw [hbd]
    exact told_gives hK HT E (C.room.mono (by omega)) h0 he Sg.nd hN0 hi hln hge hgy hde hdy hn1 hn2
  rw [← hK] at hkp lk hcd hbn
  refine (LamX.pe_lamcall (T := g.T) (TT := TTo g cl wd) (k := k) (t := fun E => tE g (fun c _ _ H' => E c none H') f) hg hm (by rw [← hK]; exact hkp) (by rw [← hK]; exact lk) hcd (by simpa using hbn) Sg hN0 hva hG TB hcode hmT hu C.room L hdef hbind
    (fun A outer s H E fa c' hr => hbody A outer s H E fa c' (Cz.mk1 hK (takes_lam (L2.takes_of rfl rfl rfl rfl)) rfl C.nd hr (passes_of rfl))) hdx hda hca).imp ?_
  rintro σ H Q ⟨ρ, s, hp, R, L', h⟩
  refine ⟨R.tab, fun H1 eN tN => ?_⟩
  obtain ⟨S1, R1⟩ := R.all eN tN
  refine ⟨ρ, s, hp, R1, L'.step R S1, ?_⟩
  unfold dTold at h
  cases q : f s hp with
  | no => rw [q] at h; exact h
  | ok v h1 =>
    rw [q] at h
    exact fun ρ2 H2 z S2 R2 r2 => h ρ2 H2 z (S1.trans S2) R2 r2
  | ex c0 h1 =>
    rw [q] at h
    simp only at h
    by_cases hc : cl.contains (c0 % 100) = true
    · rw [if_pos hc] at h
      refine fun ρ2 H2 S2 R2 => ⟨rfl, R2.tab, c0 % 100, List.contains_iff_mem.mp hc, rfl, fun ρ3 H3 S3 t3 => ?_⟩
      obtain ⟨S4, R4⟩ := R2.all (fun b o e nt => S3.keep b o e (by simp) nt) t3
      exact h ρ2 H3 _ ((S1.trans S2).trans S4) R4 (by simp only [Rv])
    · rw [if_neg hc] at h
      exact h.elim
end Wr
set_option Elab.async false
set_option linter.all false
set_option maxRecDepth 100000
set_option maxHeartbeats 4000000
set_option autoImplicit false
namespace Wr
open PySem PySem.Spec PyProof.Rows L2
/-- a def's table of code objects, the name that its lambdas bear -/
def lamQ (x : Str) : Str := x ++ ".<locals>." ++ "<lambda>"
def tabQ (K : PySem.W.Frag) (x : Str) : Addr × Str := ((He.cT K (x, none)).2, lamQ x)
theorem mk_fnL {P : Program} {w : World} {g : Gd} {mg : Str → Option Value} {base : Heap} {x : Str} {st : Stmt} {N ps : List Str} {k nN np : Nat} {b : Ds} (F : FnP g.K x st) (hm : mg x = some (.ref (He.ga g.K x))) (hb : BindsAll x st ps) (S : FnScope N ps (defScope st)) (hN : N.length = nN) (hp : ps.length = np)
    (body : ∀ (f : Addr) (cdv : Value) (A : Around) (outer : List Env) (s : Shared) (H : Hp) (E : XK), cdv = .ref (He.cT g.K (x, none)).1 → SB g (cxOf (CXM P w) P w g.K mg base N x (defScope st) f cdv A outer s H E) (fun c d _ H' => E c d H') (k + 1) (defBody st) b) :
    Okf P w g mg base (k + 1) x ps np (fnD nN b) := by
  obtain ⟨fd, F⟩ := F
  refine ⟨hm, F.kp, fd, fdO_of F, ?_, F.bindsN hb⟩
  obtain ⟨oc, od, dV, kV, doc, pm, an, cdv, ct, osl, rfl, lk, hcd, _, _⟩ := F.ex
  refine fn_of lk hcd S (fun vs H Q E h => by rw [hp]; exact h.1) fun A outer s H vs Q E hr h => ?_
  obtain ⟨hl, ρ, hh, xs, R, r, q⟩ := h
  obtain ⟨c, rfl⟩ := He.codeIn_ref hcd
  have hc : He.codeOf g.K (x, none) = c := He.codeOf_eq (p := (x, none)) lk rfl
  have tk : Takes (cxOf (CXM P w) P w g.K mg base N x (defScope st) (He.ga g.K x) (.ref c) A outer s H E) (fun c d _ H' => E c d H') := takes_of rfl rfl rfl rfl
  refine ⟨_, body (He.ga g.K x) (.ref c) A outer s H E (by rw [← hc]; rfl) (Cz.mk1 rfl tk rfl S.nd hr (passes_of rfl)), ρ, xs.map some ++ List.replicate (nN - xs.length) none, hh, R, start_rsl r hN, ?_⟩
  unfold fnD at q
  rw [← R.len] at q
  have q2 := compact_ok q
  cases qb : b (xs.map some ++ List.replicate (nN - xs.length) none) hh with
  | nx s1 h1 => rw [qb] at q2; exact fun ρ1 H1 σ1 S1 R1 L1 => q2 ρ1 H1 .non S1 R1 (by simp only [Rv])
  | rt v h1 => rw [qb] at q2; exact q2
  | ex c s1 h1 => rw [qb] at q2; exact fun ρ1 H1 σ1 S1 R1 L1 => q2 ρ1 H1 S1 R1
  | bk s1 h1 => rw [qb] at q2; exact q2.elim
  | ct s1 h1 => rw [qb] at q2; exact q2.elim
  | no => rw [qb] at q2; exact q2.elim
def gdT (K : PySem.W.Frag) (G : Nat → Addr) (tf : List Str) (sa : Addr) (ns : List Int) : Gd := ⟨K, G, sa, ns, tf.map (tabQ K), none⟩
def spLawT (K : PySem.W.Frag) (G : Nat → Addr) (tf : List Str) (n : Nat) (F : List Int → Fn) : Sp := fun vs H Q E => ∃ sa ns, ns.length ≤ n ∧ spD (gdT K G tf sa ns) 1 (F ns) vs H Q E
/-- the same, or the script is not frozen yet -/
def spLawF (K : PySem.W.Frag) (G : Nat → Addr) (tf : List Str) (n : Nat) (F : List Int → Fn) : Sp := fun vs H Q E => spLawT K G tf n F vs H Q E ∨ ∃ (a : Addr) (xs : List V), H a = some (.lst xs) ∧ ∀ o, spLawT K G tf n F vs (upd H a (.frz o (.lst xs))) Q E
theorem env_frz {P : Program} {w : World} {K : PySem.W.Frag} {mg : Str → Option Value} {base : Heap} {A : Around} {outer : List Env} {s : Shared} {H : Hp} {a : Addr} {xs : List V} (e : Env0 P w K mg base A outer s H) (h : H a = some (.lst xs)) : ∃ o, Env0 P w K mg base A outer s (upd H a (.frz o (.lst xs))) := by
  obtain ⟨hz, its, n, rv, hg⟩ := e.hok a _ h
  refine ⟨{ cls := .type "list", data := .seq its.toArray n }, e.frames, e.mod, fun b o q => ?_, e.bsz, e.funs, fun b hb => ?_, fun b u q => ?_, e.bare⟩
  · obtain ⟨q1, q2⟩ := e.bs b o q
    exact ⟨q1, by rw [upd_ne (show b ≠ a from fun z => by rw [z, h] at q2; cases q2)]; exact q2⟩
  · have q2 := e.frf b hb
    rw [upd_ne (show b ≠ a from fun z => by rw [z, h] at q2; cases q2)]; exact q2
  · by_cases hb : b = a
    · subst hb
      rw [upd_same] at q
      cases q
      exact ⟨hg, hz, its, n, rv, hg⟩
    · rw [upd_ne hb] at q
      refine (e.hok b u q).stay (fun _ _ _ z => z) (fun c z => ?_) fun c ys z => ?_
      · rw [upd_ne (show c ≠ a from fun y => by rw [y, h] at z; cases z)]; exact z
      · rw [upd_ne (show c ≠ a from fun y => by rw [y, h] at z; cases z)]; exact z
theorem cr_frz {P : Program} {w : World} {outer : List Env} {s : Shared} {H : Hp} {a : Addr} {xs : List V} {o : Obj} {Q : VK} {E : XK} {r : Result} {s' : Shared} (h : H a = some (.lst xs)) (z : CR (CXM P w) outer P w (upd H a (.frz o (.lst xs))) s Q E r s') : CR (CXM P w) outer P w H s Q E r s' := by
  have up : ∀ b u, H b = some u → (∀ ys, u ≠ .lst ys) → upd H a (.frz o (.lst xs)) b = some u := fun b u e ne => by
    rw [upd_ne (show b ≠ a from fun y => by rw [y, h] at e; cases e; exact ne _ rfl)]; exact e
  have un : ∀ b, H b = none → upd H a (.frz o (.lst xs)) b = none := fun b e => by
    rw [upd_ne (show b ≠ a from fun y => by rw [y, h] at e; cases e)]; exact e
  cases r with
  | error e =>
    rcases z with z | z
    · left
      obtain ⟨c, B, H', cls, d, h1, h2, h3, u, h5, h6, h7, h8⟩ := z
      exact ⟨c, B, H', cls, d, h1, h2, h3, ⟨fun b o e n => u.keep b o e (un b n), u.slot, fun b o e n => u.free b o e (un b n), u.there, fun b ys e => u.tups b ys (up _ _ e fun _ z => nomatch z), fun b o y e => u.frzs b o y (up _ _ e fun _ z => nomatch z), fun b ps e => u.tbls b ps (up _ _ e fun _ z => nomatch z)⟩, h5, h6, h7, h8⟩
    · right
      obtain ⟨c, B, H', cls, d, h1, h2, h3, u, h5, h6, h7, h8⟩ := z
      exact ⟨c, B, H', cls, d, h1, h2, h3, ⟨fun b o e n => u.keep b o e (un b n), u.slot, fun b o e n => u.free b o e (un b n), u.there, fun b ys e => u.tups b ys (up _ _ e fun _ z => nomatch z), fun b o y e => u.frzs b o y (up _ _ e fun _ z => nomatch z), fun b ps e => u.tbls b ps (up _ _ e fun _ z => nomatch z)⟩, h5, h6, h7, h8⟩
  | ok fl =>
    cases fl with
    | ret v =>
      obtain ⟨x, H', h1, h2, u, h4, h5, h6⟩ := z
      exact ⟨x, H', h1, h2, ⟨fun b o e n => u.keep b o e (un b n), fun b o e n => u.slot b o e (un b n), fun b o e n => u.free b o e (un b n), u.there, fun b ys e => u.tups b ys (up _ _ e fun _ z => nomatch z), fun b o y e => u.frzs b o y (up _ _ e fun _ z => nomatch z), fun b ps e => u.tbls b ps (up _ _ e fun _ z => nomatch z)⟩, h4, h5, h6⟩
    | next => exact z
    | brk => exact z
    | cont => exact z
theorem law_okT {P : Program} {w : World} {K : PySem.W.Frag} {mg : Str → Option Value} {base : Heap} {G : Nat → Addr} {tf : List Str} {n k : Nat} {F : List Int → Fn} {fd : FuncData} (hfd : fdO K (He.ga K "law") = some fd)
    (h : ∀ sa ns, Okf P w (gdT K G tf sa ns) mg base k "law" ["script"] 1 (F ns)) : FnOk P w K mg base (CXM P w) k (He.ga K "law") fd ["script"] (spLawF K G tf n F) := by
  have one : ∀ (A : Around) (outer : List Env) (s : Shared) (H : Hp) (args : Args) (us : List Value) (vs : List V) (Q : VK) (E : XK), Room k A → Env0 P w K mg base A outer s H → BindsTo s fd args ((["script"] : List Str).zip us) → Vals vs us → spLawT K G tf n F vs H Q E → codeAny (model P w) A (.call (.ref (He.ga K "law")) args) (CR (CXM P w) outer P w H s Q E) s := by
    intro A outer s H args us vs Q E hr he hb hv z
    obtain ⟨sa, ns, _, z⟩ := z
    obtain ⟨_, _, fd', h0, h1, _⟩ := h sa ns
    have : fdO K (He.ga K "law") = some fd' := h0
    rw [hfd] at this
    cases this
    exact h1.run A outer s H args us vs Q E hr he hb hv z
  refine ⟨fun vs H Q E z => ?_, fun A outer s H args us vs Q E hr he hb hv z => ?_⟩
  · rcases z with ⟨sa, ns, _, z⟩ | ⟨a, xs, _, z⟩
    · exact z.1
    · obtain ⟨sa, ns, _, z⟩ := z { cls := .none, data := .plain }
      exact z.1
  · rcases z with z | ⟨a, xs, ha, z⟩
    · exact one A outer s H args us vs Q E hr he hb hv z
    · obtain ⟨o, he2⟩ := env_frz he ha
      exact codeAny_mono (one A outer s _ args us vs Q E hr he2 hb hv (z o)) fun r s' => cr_frz ha
theorem law_spT {K : PySem.W.Frag} {G : Nat → Addr} {tf : List Str} {n : Nat} {F : List Int → Fn} (ok : ∀ ns : List Int, ns.length ≤ n → ∃ h, F ns [.scr] [] = .ok (.bl true) h) (H : Hp) (a : Addr) (ns : List Int) (hl : ns.length ≤ n) (hT : ∀ x ∈ tf, H (He.cT K (x, none)).2 = some (.tbl #[]))
    (hS : SqL K H a (ns.map V.int)) : spLawF K G tf n F [.ref a] H (fun v _ => v = .bl true) fun _ _ _ => False := by
  have one : ∀ H : Hp, (∀ x ∈ tf, H (He.cT K (x, none)).2 = some (.tbl #[])) → ScrAt (gdT K G tf a ns) H → spLawT K G tf n F [.ref a] H (fun v _ => v = .bl true) fun _ _ _ => False := by
    intro H hT hS
    obtain ⟨h, e⟩ := ok ns hl
    refine ⟨a, ns, hl, rfl, [], [], [.scr], ⟨rfl, List.nodup_nil, fun p hp => ?_, fun i a o h1 h2 => by simp at h1⟩, Rvs.one (by simp only [Rv]; exact ⟨rfl, hS⟩), ?_⟩
    · obtain ⟨x, hx, rfl⟩ := List.mem_map.mp hp
      exact LamX.TabS.nil (hT x hx)
    · rw [e]
      intro ρ' H' x S R r
      exact rv_bl r
  rcases hS with (h1 | h1) | h1
  · refine .inr ⟨a, _, h1, fun o => one _ (fun x hx => ?_) (.inl ⟨o, upd_same⟩)⟩
    have q := hT x hx
    rw [upd_ne (show (He.cT K (x, none)).2 ≠ a from fun z => by rw [z, h1] at q; cases q)]; exact q
  · exact .inl (one H hT (.inl h1))
  · exact .inl (one H hT (.inr h1))
/-- what the head tells of a law with lambdas -/
theorem lawAt {l : PySem.W.OpenLaw} {w : World} {K : PySem.W.Frag} {k : Nat} {G : Nat → Addr} {tf : List Str} {F : List Int → Fn} {mg : Str → Option Value} {fd : FuncData} {h : Heap} (KX : K.In h) (hd : ∀ x ∈ tf, PySem.W.codeHdIn K (He.cT K (x, none)).1 (He.cT K (x, none)).2 = true) (out : ∀ x ∈ tf, K.lookup (He.cT K (x, none)).2 = none)
    (emp : ∀ x ∈ tf, h.get? (He.cT K (x, none)).2 = some { cls := .none, data := .fields #[] }) (hb : ∀ (s : Shared) (u : Value), BindsTo s fd ⟨[u], []⟩ [("script", u)]) (ok : ∀ ns : List Int, ns.length ≤ 63 → ∃ h, F ns [.scr] [] = .ok (.bl true) h)
    (F' : ∀ base : Heap, K.In base → base.Ns mainGlobals mg → (∀ x ∈ tf, LamX.TabB base mg (He.cT K (x, none)).1 (He.cT K (x, none)).2) → FnOk l.prog w K mg base (CXM l.prog w) k (He.ga K "law") fd ["script"] (spLawF K G tf 63 F)) :
    LamX.LawAtS l w K (CXM l.prog w) k 63 "script" mg (He.ga K "law") h := by
  refine ⟨fd, tf.map fun x => He.cT K (x, none), spLawF K G tf 63 F, fun p hp => ?_, fun p hp => ?_, fun p hp => ?_, hb, fun H a ns hl _ hT hS => law_spT ok H a ns hl (fun x hx => hT _ (List.mem_map.mpr ⟨x, hx, rfl⟩)) hS, fun base KB GB hT => F' base KB GB fun x hx => hT _ (List.mem_map.mpr ⟨x, hx, rfl⟩)⟩
  · obtain ⟨x, hx, rfl⟩ := List.mem_map.mp hp
    exact emp x hx
  · obtain ⟨x, hx, rfl⟩ := List.mem_map.mp hp
    exact out x hx
  · obtain ⟨x, hx, rfl⟩ := List.mem_map.mp hp
    exact PySem.W.codeHd_of_K KX (hd x hx)
end Wr
namespace Wr
open PySem PySem.Spec PyProof.Rows L2
theorem Exn.hot {g : Gd} {mg : Str → Option Value} {cl : List Nat} (E : Exn g mg cl) (p : Addr × Obj) : Exn (g.hotAt p) mg cl := ⟨E.mg, E.own, E.kp, E.sub, E.ty, E.exc, E.val, E.exm, E.kit⟩
theorem hotIn {g : Gd} {p : Addr × Obj} {X : Cx} (h : X.pn = [p]) : ∀ q, (g.hotAt p).hot = some q → q ∈ X.pn := fun q e => by
  cases e
  rw [h]
  exact List.mem_singleton.mpr rfl
/-- the text that a def tells of a refusal -/
def wdOf (F : Fn) (c : Nat) : Str := match F [.exc c] [] with
  | .ok (.str w) _ => w
  | _ => Str.mk #[]
def isWd (r : Rs Va) : Bool := match r with
  | .ok (.str _) _ => true
  | _ => false
theorem hot_all {P : Program} {w : World} {g : Gd} {mg : Str → Option Value} {base : Heap} {x : Str} {F : Fn} {cl : List Nat} (h : (cl.all fun c => isWd (F [.exc c] [])) = true) (k : ∀ c wd hz, F [.exc c] [] = .ok (.str wd) hz → HotT P w g mg base x c wd) : ∀ c ∈ cl, HotT P w g mg base x c (wdOf F c) := fun c hc => by
  have z := List.all_eq_true.mp h c hc
  unfold isWd at z
  unfold wdOf
  split at z
  · rename_i w hz e
    first | exact k c w hz e | (rw [e]; exact k c w hz e)
  · cases z
end Wr
set_option Elab.async false
set_option linter.all false
set_option maxRecDepth 100000
set_option maxHeartbeats 4000000
set_option autoImplicit false
namespace Wr
open PySem PySem.Spec PyProof.Rows L2
def qMark : Str := Str.mk #[63]
def staysB (p : Nat → Pos) (j : Nat → Nat) : List Stmt := [
  .Assign [.Name "told" (p 0)] (.Call (.Name "deed" (p 1)) [] [] (p 2)) (p 3),
  .If (.UnaryOp .Not (.Call (.Name "isinstance" (p 4)) [.Name "told" (p 5), .Name "list" (p 6)] [] (p 7)) (p 8)) [.Return (some (.Constant (.bool false) (j 0) (p 9))) (p 10)] [] (p 11),
  .Assign [.Name "kept" (p 12)] (.Call (.Name "list" (p 13)) [.Name "told" (p 14)] [] (p 15)) (p 16),
  .Expr (.Call (.Attribute (.Name "told" (p 17)) "append" (p 18)) [.Constant (.str qMark) (j 1) (p 19)] [] (p 20)) (p 21),
  .Return (some (.Compare (.Call (.Name "deed" (p 22)) [] [] (p 23)) [.Eq] [.Name "kept" (p 24)] (p 25))) (p 26)]
def posF (l : List Pos) (d : Pos) : Nat → Pos := fun n => l.getD n d
def natF (a b : Nat) : Nat → Nat := fun n => [a, b].getD n a
def IsStays (st : Stmt) : Prop := ∃ (p0 p1 p2 p3 p4 p5 p6 p7 p8 p9 p10 p11 p12 p13 p14 p15 p16 p17 p18 p19 p20 p21 p22 p23 p24 p25 p26 : Pos) (j0 j1 : Nat), defBody st = staysB (posF [p0, p1, p2, p3, p4, p5, p6, p7, p8, p9, p10, p11, p12, p13, p14, p15, p16, p17, p18, p19, p20, p21, p22, p23, p24, p25, p26] p0) (natF j0 j1) ∧ (p18.endLine == p20.line) = true
theorem IsStays.ex {st : Stmt} (h : IsStays st) : ∃ (p : Nat → Pos) (j : Nat → Nat), defBody st = staysB p j ∧ ((p 18).endLine == (p 20).line) = true := by
  obtain ⟨p0, p1, p2, p3, p4, p5, p6, p7, p8, p9, p10, p11, p12, p13, p14, p15, p16, p17, p18, p19, p20, p21, p22, p23, p24, p25, p26, j0, j1, h1, h2⟩ := h
  exact ⟨_, _, h1, h2⟩
end Wr
set_option Elab.async false
set_option linter.all false
set_option maxRecDepth 100000
set_option maxHeartbeats 4000000
set_option autoImplicit false
namespace Wr
open PySem PySem.Spec PyProof.Rows L2
/-- what is known of the class -/
structure Cin (g : Gd) (mg : Str → Option Value) : Prop where
  mgC : mg "Poll" = some (.ref (g.G 8))
  cls : Cls g.K (g.G 8)
  now : NoAttr g.K (g.G 8) "now"
  past : NoAttr g.K (g.G 8) "past"
  later : NoAttr g.K (g.G 8) "later"
  mkr : Mk g.K (g.G 8) (He.ma g.K (g.G 8) "__init__")
def insAt (x : Va) (h : Hs) : Option (Nat × List (Str × Va)) := match x with
  | .ref i => match h[i]? with
    | some (.ins c fs) => if c == 8 then some (i, fs) else none
    | _ => none
  | _ => none
section
variable {g : Gd} {ρ : List Addr} {H : Hp} {hp : Hs}
theorem insAt_is {x : Va} {i : Nat} {fs : List (Str × Va)} (e : insAt x hp = some (i, fs)) : x = .ref i ∧ hp[i]? = some (.ins 8 fs) := by
  unfold insAt at e
  split at e
  · split at e
    · rename_i j _ c fs' hj
      by_cases hc : (c == 8) = true
      · rw [if_pos hc] at e
        cases e
        have : c = 8 := beq_iff_eq.mp hc
        subst this
        exact ⟨rfl, hj⟩
      · rw [if_neg hc] at e; cases e
    · cases e
  · cases e
theorem insAt_rv {x : Va} {v : V} {i : Nat} {fs : List (Str × Va)} (R : Rh g ρ H hp) (r : Rv g ρ H x v) (e : insAt x hp = some (i, fs)) : ∃ a dx ws, ρ[i]? = some a ∧ v = .ref a ∧ H a = some (.ins (g.G 8) dx ws) ∧ Rkv g ρ H fs ws := by
  obtain ⟨rfl, hi⟩ := insAt_is e
  simp only [Rv] at r
  obtain ⟨a, ha, rfl⟩ := r
  obtain ⟨dx, ws, h1, h2⟩ := R.obj i a _ ha hi
  exact ⟨a, dx, ws, ha, rfl, h1, h2⟩
theorem rkv_lookup {f : Str} {v : Va} : ∀ {fs : List (Str × Va)} {ws : List (Str × V)}, Rkv g ρ H fs ws → fs.lookup f = some v → ∃ w, ws.lookup f = some w ∧ Rv g ρ H v w
  | [], _, h, e => by cases e
  | (k, x) :: fs, _, h, e => by
    obtain ⟨y, r, rfl, h1, h2⟩ := h
    by_cases hk : f = k
    · subst hk
      rw [List.lookup_cons_self] at e
      cases e
      exact ⟨y, List.lookup_cons_self, h1⟩
    · have hb : (f == k) = false := by simpa using hk
      rw [List.lookup_cons, hb] at e
      obtain ⟨w, e1, e2⟩ := rkv_lookup h2 e
      exact ⟨w, by rw [List.lookup_cons, hb]; exact e1, e2⟩
theorem rkv_none {f : Str} : ∀ {fs : List (Str × Va)} {ws : List (Str × V)}, Rkv g ρ H fs ws → fs.lookup f = none → ws.lookup f = none
  | [], _, h, e => by
    have h : _ = [] := h
    rw [h]; rfl
  | (k, x) :: fs, _, h, e => by
    obtain ⟨y, r, rfl, h1, h2⟩ := h
    by_cases hk : f = k
    · subst hk
      rw [List.lookup_cons_self] at e
      cases e
    · have hb : (f == k) = false := by simpa using hk
      rw [List.lookup_cons, hb] at e ⊢
      exact rkv_none h2 e
def putA (f : Str) (v : Va) : List (Str × Va) → List (Str × Va)
  | [] => [(f, v)]
  | (k, x) :: r => if k = f then (k, v) :: r else (k, x) :: putA f v r
theorem putA_rv {f : Str} {v : Va} {w : V} (r : Rv g ρ H v w) : ∀ {fs : List (Str × Va)} {ws : List (Str × V)}, Rkv g ρ H fs ws → Rkv g ρ H (putA f v fs) (putF f w ws)
  | [], _, h => by
    have h : _ = [] := h
    rw [h]
    exact ⟨w, [], rfl, r, rfl⟩
  | (k, x) :: fs, _, h => by
    obtain ⟨y, t, rfl, h1, h2⟩ := h
    unfold putA putF
    by_cases hk : k = f
    · rw [if_pos hk, if_pos hk]
      exact ⟨w, t, rfl, r, h2⟩
    · rw [if_neg hk, if_neg hk]
      exact ⟨y, _, rfl, h1, putA_rv r h2⟩
theorem rkv_len : ∀ {fs : List (Str × Va)} {ws : List (Str × V)}, Rkv g ρ H fs ws → fs.length = ws.length
  | [], _, h => by
    have h : _ = [] := h
    rw [h]; rfl
  | (k, x) :: fs, _, h => by
    obtain ⟨y, t, rfl, h1, h2⟩ := h
    simp [rkv_len h2]
end
section
variable {g : Gd} {X : Cx} {W : WX} {n : Nat} {pos pos' : Pos} {o e : Expr}
def dFld (f : Str) (fo : De) : De := fun s h => (fo s h).bind fun x h1 => match insAt x h1 with
  | some (_, fs) => match fs.lookup f with
    | some v => .ok v h1
    | none => .no
  | none => .no
theorem e_fld (f : Str) {fo : De} (hc : Cls g.K (g.G 8)) (hn : NoAttr g.K (g.G 8) f) (ho : SE g X W n o fo) (hb : attributeBase o f X.env (eval o X.env) = eval o X.env := by rfl) : SE g X W n (.Attribute o f pos) (dFld f fo) := by
  intro C
  refine (pe_fld (ho C) hb).imp ?_
  rintro σ H Q ⟨ρ, s, hp, R, L, h⟩
  refine bE h R L fun v h1 ρ1 H1 x S1 R1 r1 L1 p1 => ?_
  cases e1 : insAt v h1 with
  | none => rw [e1] at p1; exact p1.elim
  | some q =>
    obtain ⟨i, fs⟩ := q
    rw [e1] at p1
    simp only at p1
    obtain ⟨a, dx, ws, ha, rfl, hH, rk⟩ := insAt_rv R1 r1 e1
    cases e2 : fs.lookup f with
    | none => rw [e2] at p1; exact p1.elim
    | some u =>
      rw [e2] at p1
      obtain ⟨w, hw, rw'⟩ := rkv_lookup rk e2
      exact ⟨a, g.G 8, dx, ws, w, rfl, hH, by rw [C.K]; exact hc, by rw [C.K]; exact hn, hw, p1 ρ1 H1 w (.refl _ _) R1 rw'⟩
def dFldS (f : Str) (fo fv : De) : Ds := fun s h => (fv s h).bindS s fun v h1 => (fo s h1).bindS s fun x h2 => match insAt x h2 with
  | some (i, fs) => if decide (fs.length < 100) then .nx s (h2.set i (.ins 8 (putA f v fs))) else .no
  | none => .no
theorem s_fld (f : Str) {fo fv : De} (hc : Cls g.K (g.G 8)) (hn : NoAttr g.K (g.G 8) f) (ho : SE g X W n o fo) (hv : SE g X W n e fv) (hs : swapsWith e (some (.Attribute o f pos')) pos.line X.env = pure false := by rfl) :
    SS g X W n (.Assign [.Attribute o f pos'] e pos) (dFldS f fo fv) := by
  intro C
  refine (ps_fld (ho C) (hv C) hs).imp ?_
  rintro D σ H ⟨ρ, s, hp, R, L, h⟩
  refine bS h R L fun v h1 ρ1 H1 y S1 R1 ry L1 p1 => ?_
  refine bS p1 R1 L1 fun x h2 ρ2 H2 z S2 R2 rz L2 p2 => ?_
  cases e1 : insAt x h2 with
  | none => rw [e1] at p2; exact p2.elim
  | some q =>
    obtain ⟨i, fs⟩ := q
    rw [e1] at p2
    simp only at p2
    by_cases hl : fs.length < 100
    · rw [if_pos (decide_eq_true hl)] at p2
      obtain ⟨a, dx, ws, ha, rfl, hH, rk⟩ := insAt_rv R2 rz e1
      have ry2 := Rv.step R1 S2 _ _ ry
      refine ⟨a, g.G 8, dx, ws, rfl, hH, by rw [C.K]; exact hc, by rw [C.K]; exact hn, by rw [← rkv_len rk]; omega, ?_⟩
      obtain ⟨S3, R3⟩ := R2.put (u := .ins (g.G 8) dx (putF f y ws)) (o := .ins 8 (putA f v fs)) ha (fun _ _ z => by rw [hH] at z; cases z) fun S => ⟨dx, _, upd_same, Rkv.step R2 S _ _ (putA_rv ry2 rk)⟩
      exact p2 ρ2 _ σ S3 R3 (L2.step R2 S3)
    · rw [if_neg (fun z => hl (of_decide_eq_true z))] at p2; exact p2.elim
end
/-- what a method promises -/
def Okm (P : Program) (w : World) (g : Gd) (mg : Str → Option Value) (base : Heap) (k : Nat) (m : Str) (ps : List Str) (np : Nat) (F : Fn) : Prop :=
  Meth g.K (g.G 8) m (He.ma g.K (g.G 8) m) ∧ ∃ fd, FnOk P w g.K mg base (CXM P w) k (He.ma g.K (g.G 8) m) fd ps (spD g np F) ∧ Binds g.K fd ps []
theorem Okm.mono {P : Program} {w : World} {g : Gd} {mg : Str → Option Value} {base : Heap} {j k : Nat} {m : Str} {ps : List Str} {np : Nat} {F : Fn} (h : Okm P w g mg base j m ps np F) (hj : j ≤ k) : Okm P w g mg base k m ps np F := by
  obtain ⟨h1, fd, h2, h3⟩ := h
  exact ⟨h1, fd, h2.mono hj, h3⟩
abbrev FnM (K : PySem.W.Frag) (x qual : Str) (st : Stmt) (f : Addr) : Prop := ∃ fd, FunD K x qual (defArgs st) (defBody st) (defScope st) [] [] f fd
abbrev BindsM (x qual : Str) (st : Stmt) (ps : List Str) : Prop := ∀ (kV doc pm : Value) (an : Option Addr) (cdv ct : Value) (us : List Value), us.length = ps.length → bindArgs (PySem.W.fnOf x qual (defArgs st) (defBody st) (defScope st) .none kV doc pm an cdv ct) ⟨us, []⟩ = pure (ps.zip us)
theorem mk_fn0 {P : Program} {w : World} {g : Gd} {mg : Str → Option Value} {base : Heap} {f : Addr} {x qual : Str} {st : Stmt} {N ps : List Str} {k nN np : Nat} {b : Ds} (F : FnM g.K x qual st f) (hb : BindsM x qual st ps) (S : FnScope N ps (defScope st)) (hN : N.length = nN) (hp : ps.length = np)
    (body : ∀ (f : Addr) (cdv : Value) (A : Around) (outer : List Env) (s : Shared) (H : Hp) (E : XK), SB g (cxOf (CXM P w) P w g.K mg base N qual (defScope st) f cdv A outer s H E) (fun c d _ H' => E c d H') (k + 1) (defBody st) b) :
    ∃ fd, FnOk P w g.K mg base (CXM P w) (k + 1) f fd ps (spD g np (fnD nN b)) ∧ Binds g.K fd ps [] := by
  obtain ⟨fd, F⟩ := F
  refine ⟨fd, ?_, F.bindsN hb⟩
  refine F.ok S (fun vs H Q E h => by rw [hp]; exact h.1) fun cdv A outer s H vs Q E hr h => ?_
  obtain ⟨hl, ρ, hh, xs, R, r, q⟩ := h
  have tk : Takes (cxOf (CXM P w) P w g.K mg base N qual (defScope st) f cdv A outer s H E) (fun c d _ H' => E c d H') := takes_of rfl rfl rfl rfl
  refine ⟨_, body f cdv A outer s H E (Cz.mk1 rfl tk rfl S.nd hr (passes_of rfl)), ρ, xs.map some ++ List.replicate (nN - xs.length) none, hh, R, start_rsl r hN, ?_⟩
  unfold fnD at q
  rw [← R.len] at q
  have q2 := compact_ok q
  cases qb : b (xs.map some ++ List.replicate (nN - xs.length) none) hh with
  | nx s1 h1 => rw [qb] at q2; exact fun ρ1 H1 σ1 S1 R1 L1 => q2 ρ1 H1 .non S1 R1 (by simp only [Rv])
  | rt v h1 => rw [qb] at q2; exact q2
  | ex c s1 h1 => rw [qb] at q2; exact fun ρ1 H1 σ1 S1 R1 L1 => q2 ρ1 H1 S1 R1
  | bk s1 h1 => rw [qb] at q2; exact q2.elim
  | ct s1 h1 => rw [qb] at q2; exact q2.elim
  | no => rw [qb] at q2; exact q2.elim
theorem mk_fnM {P : Program} {w : World} {g : Gd} {mg : Str → Option Value} {base : Heap} {x qual : Str} {st : Stmt} {N ps : List Str} {k nN np : Nat} {b : Ds} (hM : Meth g.K (g.G 8) x (He.ma g.K (g.G 8) x)) (F : FnM g.K x qual st (He.ma g.K (g.G 8) x)) (hb : BindsM x qual st ps) (S : FnScope N ps (defScope st)) (hN : N.length = nN) (hp : ps.length = np)
    (body : ∀ (f : Addr) (cdv : Value) (A : Around) (outer : List Env) (s : Shared) (H : Hp) (E : XK), SB g (cxOf (CXM P w) P w g.K mg base N qual (defScope st) f cdv A outer s H E) (fun c d _ H' => E c d H') (k + 1) (defBody st) b) :
    Okm P w g mg base (k + 1) x ps np (fnD nN b) := ⟨hM, mk_fn0 F hb S hN hp body⟩
section
variable {g : Gd} {X : Cx} {W : WX} {n : Nat} {pos apos : Pos} {o e : Expr} {es : List Expr}
def insOk (m : Str) (x : Va) (h : Hs) : Bool := match insAt x h with
  | some (_, fs) => (fs.lookup m).isNone
  | none => false
def dMeth (m : Str) (F : Fn) (np : Nat) (fo : De) (fa : Da) : De := fun s h => (fo s h).bind fun x h1 => if insOk m x h1 then (fa s h1).bind fun vs h2 => if (x :: vs).length == np then callD F (x :: vs) h2 else .no else .no
def dMeth0 (m : Str) (F : Fn) (fo : De) : De := fun s h => (fo s h).bind fun x h1 => if insOk m x h1 then callD F [x] h1 else .no
theorem insOk_rv {ρ : List Addr} {H : Hp} {hp : Hs} {m : Str} {x : Va} {v : V} (R : Rh g ρ H hp) (r : Rv g ρ H x v) (e : insOk m x hp = true) : ∃ a dx ws, v = .ref a ∧ H a = some (.ins (g.G 8) dx ws) ∧ ws.lookup m = none := by
  unfold insOk at e
  cases e1 : insAt x hp with
  | none => rw [e1] at e; cases e
  | some q =>
    obtain ⟨i, fs⟩ := q
    rw [e1] at e
    obtain ⟨a, dx, ws, ha, rfl, hH, rk⟩ := insAt_rv R r e1
    exact ⟨a, dx, ws, rfl, hH, rkv_none rk (Option.isNone_iff_eq_none.mp e)⟩
theorem e_methP {m : Str} {F : Fn} {ps : List Str} {np : Nat} {fo : De} {fa : Da} {pl : Sem Bool} (hc : Cls g.K (g.G 8)) (O : Okm X.prog X.w g X.mg X.base n m ps np F) (hK : X.K = g.K) (ho : SE g X W (n + 1) o fo) (ha : SA g X W (n + 1) (e :: es) fa)
    (hst : starEach (e :: es) X.env = (false, eval e X.env) :: starEach es X.env := by rfl) (hpl : (backTo pos (starEach es X.env)).any (·.1) = false := by rfl)
    (ht : eval (.Call (.Attribute o m apos) (e :: es) [] pos) X.env = (do
      let ov ← eval o X.env
      standAt apos.atName
      let (f, first) ← holding [ov] (getMethod ov m pl)
      callWith pos f first (backTo pos (starEach (e :: es) X.env)) (backToKw pos (keywordEach [] X.env))) := by rfl) :
    SE g X W (n + 1) (.Call (.Attribute o m apos) (e :: es) [] pos) (dMeth m F np fo fa) := by
  intro C
  obtain ⟨hM, fd, FO, hb⟩ := O
  rw [← hK] at hM FO hb hc
  refine ⟨fun pins s σ H Q I h => ?_⟩
  obtain ⟨ρ, sl, hp, R, L, h⟩ := h
  have st1 : tE g W fo σ H fun x H1 => ∃ a dx fs, x = .ref a ∧ H1 a = some (.ins (g.G 8) dx fs) ∧ fs.lookup m = none ∧ tA g W fa σ H1 fun vs H2 => spD g np F (.ref a :: vs) H2 Q (WE W σ) := by
    refine bE h R L fun v h1 ρ1 H1 x S1 R1 r1 L1 p1 => ?_
    by_cases hi : insOk m v h1 = true
    · rw [if_pos hi] at p1
      obtain ⟨a, dx, ws, rfl, hH, hl⟩ := insOk_rv R1 r1 hi
      refine ⟨a, dx, ws, rfl, hH, hl, aBE p1 R1 L1 fun vs h2 ρ2 H2 xs S2 R2 r2 L2 p2 => ?_⟩
      by_cases hn : ((v :: vs).length == np) = true
      · rw [if_pos hn] at p2
        have rr : Rvs g ρ2 H2 (v :: vs) (.ref a :: xs) := Rvs.cons (Rv.step R1 S2 _ _ r1) r2
        exact sp_call R2 rr (by rw [← rr.length]; simpa using hn) p2
      · rw [if_neg hn] at p2; exact p2.elim
    · rw [if_neg hi] at p1; exact p1.elim
  refine PySem.W.methodCall_KW (pl := pl) (thn ((ho C).run pins s σ H _ I st1) fun u s1 ⟨x, H1, I1, rx, a, dx, fs, ex, ea, l, q⟩ => ?_) ht
  subst ex
  obtain rfl : u = Value.ref a := rx
  refine getmeth_ok I1 ea hc hM l ?_
  refine PySem.W.callWith_K (first := [.ref a]) (h₀ := X.base) I.ok.mod.kin hM.kp (thn ((ha C).run pos pins s1 σ H1 _ I1 q) fun us s2 ⟨vs, H2, I2, r, q2⟩ => ⟨I2.kIn, ?_⟩) hst hpl
  exact run_fnS (us := .ref a :: us) (vs := .ref a :: vs) FO C.room hb (passAt C.tk σ) I2 (.cons rfl r) q2
theorem e_methP0 {m : Str} {F : Fn} {ps : List Str} {fo : De} {pl : Sem Bool} (hc : Cls g.K (g.G 8)) (O : Okm X.prog X.w g X.mg X.base n m ps 1 F) (hK : X.K = g.K) (ho : SE g X W (n + 1) o fo)
    (ht : eval (.Call (.Attribute o m apos) [] [] pos) X.env = (do
      let ov ← eval o X.env
      standAt apos.atName
      let (f, first) ← holding [ov] (getMethod ov m pl)
      callWith pos f first (backTo pos (starEach [] X.env)) (backToKw pos (keywordEach [] X.env))) := by rfl) :
    SE g X W (n + 1) (.Call (.Attribute o m apos) [] [] pos) (dMeth0 m F fo) := by
  intro C
  obtain ⟨hM, fd, FO, hb⟩ := O
  rw [← hK] at hM FO hb hc
  refine ⟨fun pins s σ H Q I h => ?_⟩
  obtain ⟨ρ, sl, hp, R, L, h⟩ := h
  have st1 : tE g W fo σ H fun x H1 => ∃ a dx fs, x = .ref a ∧ H1 a = some (.ins (g.G 8) dx fs) ∧ fs.lookup m = none ∧ spD g 1 F [.ref a] H1 Q (WE W σ) := by
    refine bE h R L fun v h1 ρ1 H1 x S1 R1 r1 L1 p1 => ?_
    by_cases hi : insOk m v h1 = true
    · rw [if_pos hi] at p1
      obtain ⟨a, dx, ws, rfl, hH, hl⟩ := insOk_rv R1 r1 hi
      exact ⟨a, dx, ws, rfl, hH, hl, sp_call R1 (Rvs.one r1) rfl p1⟩
    · rw [if_neg hi] at p1; exact p1.elim
  refine PySem.W.methodCall_KW (pl := pl) (thn ((ho C).run pins s σ H _ I st1) fun u s1 ⟨x, H1, I1, rx, a, dx, fs, ex, ea, l, q⟩ => ?_) ht
  subst ex
  obtain rfl : u = Value.ref a := rx
  refine getmeth_ok I1 ea hc hM l ?_
  exact PySem.W.callWith_K0 (first := [.ref a]) I1.kIn hM.kp (run_fnS (us := [.ref a]) (vs := [.ref a]) FO C.room hb (passAt C.tk σ) I1 (.cons rfl .nil) q)
def dMake (F : Fn) : De := fun _ h => match callD F [.ref h.length] (h ++ [.ins 8 []]) with
  | .ok .non h1 => .ok (.ref h.length) h1
  | _ => .no
theorem e_make {F : Fn} {ps : List Str} {p : Pos} (cin : Cin g X.mg) (O : Okm X.prog X.w g X.mg X.base n "__init__" ps 1 F) (hK : X.K = g.K) (hg : Gl X "Poll" := by rfl) :
    SE g X W (n + 2) (.Call (.Name "Poll" p) [] [] pos) (dMake F) := by
  intro C
  obtain ⟨hM, fd, FO, hb⟩ := O
  have mk := cin.mkr
  rw [← hK] at FO hb mk
  have ps0 : Passes (CXM X.prog X.w) X (fun _ _ _ => False) := fun pins σ H s e s' I z => by
    rcases z with ⟨_, _, _, _, _, _, _, _, _, _, _, _, z⟩ | ⟨_, _, _, _, _, _, _, _, _, _, _, _, z⟩
    · exact z.2.elim
    · exact z.2.elim
  refine (pe_make0 (ds := []) (dvs := []) mk FO C.room hg cin.mgC hb .nil ps0).imp ?_
  rintro σ H Q ⟨ρ, s, hp, R, L, h⟩
  intro x dx hx hdx hne
  obtain ⟨S1, R1⟩ := R.laid (u := .own x) hdx
  have hx1 : upd H dx (.own x) x = none := by rw [upd_ne (Ne.symm hne)]; exact hx
  obtain ⟨S2, R2⟩ := R1.new (u := .ins (g.G 8) dx []) (o := .ins 8 []) hx1 fun S => ⟨dx, [], upd_same, rfl⟩
  refine sp_call (xs := [.ref hp.length]) R2 (Rvs.one ?_) rfl ?_
  · simp only [Rv]
    exact ⟨x, by rw [← R.len]; simp, rfl⟩
  · unfold dMake at h
    cases q : callD F [.ref hp.length] (hp ++ [.ins 8 []]) with
    | no => rw [q] at h; exact h
    | ex c h1 => rw [q] at h; exact h.elim
    | ok v h1 =>
      rw [q] at h
      cases v with
      | non =>
        intro ρ3 H3 y S3 R3 r3
        simp only [Rv] at r3
        refine ⟨r3, h ρ3 H3 (.ref x) ((S1.trans S2).trans S3) R3 ?_⟩
        simp only [Rv]
        exact ⟨x, pre_get S3.pre (by rw [← R.len]; simp), rfl⟩
      | _ => exact h.elim
end
end Wr
set_option Elab.async false
set_option linter.all false
set_option maxRecDepth 100000
set_option maxHeartbeats 4000000
set_option autoImplicit false
namespace Wr
open PySem PySem.Spec PyProof.Rows L2
def strsOf : List Va → Option (List Str)
  | [] => some []
  | .str x :: r => (strsOf r).map (x :: ·)
  | _ => none
theorem strsOf_map : ∀ ys : List Str, strsOf (ys.map .str) = some ys
  | [] => rfl
  | y :: ys => by rw [List.map_cons, strsOf, strsOf_map ys]; rfl
section
variable {g : Gd}
theorem strsOf_rv {ρ : List Addr} {H : Hp} : ∀ {xs : List Va} {vs : List V} {ys : List Str}, Rvs g ρ H xs vs → strsOf xs = some ys → vs = ys.map V.str
  | [], vs, ys, r, e => by
    cases e
    simp only [Rvs] at r
    rw [r]; rfl
  | x :: xs, vs, ys, r, e => by
    simp only [Rvs] at r
    obtain ⟨v, w, rfl, r1, r2⟩ := r
    cases x with
    | str z =>
      unfold strsOf at e
      obtain ⟨zs, h1, rfl⟩ := Option.map_eq_some_iff.mp e
      rw [rv_str r1, strsOf_rv r2 h1]; rfl
    | _ => cases e
def sumLen : List Str → Nat
  | [] => 0
  | x :: r => x.length + sumLen r
theorem sumLen_eq : ∀ ys : List Str, (ys.map (·.length)).sum = sumLen ys
  | [] => rfl
  | y :: ys => by rw [List.map_cons, List.sum_cons, sumLen_eq ys]; rfl
abbrev rJoin (K : PySem.W.Frag) : V → List V → Hp → VK → Prop := fun x xs H Q => ∃ a p, ∃ ys : List Str, x = .str a ∧ xs = [.ref p] ∧ (SqL K H p (ys.map V.str) ∨ SqT K H p (ys.map V.str)) ∧
    (ys.map (·.length)).sum + ys.length * a.length ≤ 16777216 ∧ Q (.str (Txt.join a ys)) H
def kJoin : KM := fun x xs h => match x with
  | .str a => match xs with
    | [.ref r] => match h[r]? with
      | some (.lst zs) => match strsOf zs with
        | some ys => if okN (sumLen ys + ys.length * a.length) then some (.str (Txt.join a ys), h) else none
        | none => none
      | _ => none
    | _ => none
  | _ => none
theorem m_join : MtC g "str.join" (rJoin g.K) := fun X hK hu => hK ▸ mt_join
theorem pm_join : PM1 g (rJoin g.K) kJoin := by
  intro ρ H hp x vx xs vs v h' Q R rx r e q
  unfold kJoin at e
  split at e
  · rename_i a
    split at e
    · rename_i i
      split at e
      · rename_i zs hz
        split at e
        · rename_i ys hy
          by_cases hl : okN (sumLen ys + ys.length * a.length) = true
          · rw [if_pos hl] at e
            cases e
            obtain ⟨w, rfl, rw'⟩ := r.inv1
            simp only [Rv] at rw'
            obtain ⟨b, hb, rfl⟩ := rw'
            obtain ⟨us, e2, rv⟩ := R.obj i b _ hb hz
            refine ⟨a, b, ys, rv_str rx, rfl, .inl (.inl (.inl ?_)), ?_, q ρ H _ (.refl _ _) R mk_str⟩
            · rw [e2, strsOf_rv rv hy]
            · rw [sumLen_eq]
              exact of_decide_eq_true hl
          · rw [if_neg hl] at e; cases e
        · cases e
      · cases e
    · cases e
  · cases e
theorem e_join {X : Cx} {W : WX} {n : Nat} {o e : Expr} {apos cpos : Pos} {fo : De} {fa : Da} (ho : SE g X W n o fo) (ha : SA g X W n [e] fa) (M : MForm X o "join" e [] apos cpos := by exact ⟨rfl, rfl, rfl, rfl, rfl⟩) :
    SE g X W n (.Call (.Attribute o "join" apos) [e] [] cpos) (dM "str" kJoin fo fa) :=
  e_meth PySem.F.plainAttrs_str PySem.F.slot_str_join PySem.F.type_str_join m_join pm_join ho ha M
abbrev rSplit : V → List V → Hp → VK → Prop := fun x xs H Q => ∃ a b, x = .str a ∧ xs = [.str b] ∧ (b.length == 0) = false ∧ a.length + 2 ≤ sizeLine ∧ rNewStrs (Txt.split a b) H Q
def kSplit : KM := fun x xs h => match x with
  | .str a => match xs with
    | [.str b] => if (!(b.length == 0)) && okN (a.length + 2) then some (.ref h.length, h ++ [.lst ((Txt.split a b).map .str)]) else none
    | _ => none
  | _ => none
theorem rvs_strs {ρ : List Addr} {H : Hp} : ∀ ys : List Str, Rvs g ρ H (ys.map .str) (ys.map V.str)
  | [] => Rvs.nil
  | y :: ys => Rvs.cons mk_str (rvs_strs ys)
theorem m_split : MtC g "str.split" rSplit := fun X hK hu => mt_split
theorem pm_split : PM1 g rSplit kSplit := by
  intro ρ H hp x vx xs vs v h' Q R rx r e q
  unfold kSplit at e
  split at e
  · rename_i a
    split at e
    · rename_i b
      by_cases hl : ((!(b.length == 0)) && okN (a.length + 2)) = true
      · rw [if_pos hl] at e
        cases e
        simp only [Bool.and_eq_true, Bool.not_eq_true'] at hl
        obtain ⟨w, rfl, rw'⟩ := r.inv1
        refine ⟨a, b, rv_str rx, by rw [rv_str rw'], hl.1, okN_le hl.2, fun p hn => ?_⟩
        obtain ⟨S4, R4, r4⟩ := new_lst (xs := (Txt.split a b).map .str) R hn (rvs_strs _)
        exact q _ _ _ S4 R4 r4
      · rw [if_neg hl] at e; cases e
    · cases e
  · cases e
theorem e_split {X : Cx} {W : WX} {n : Nat} {o e : Expr} {apos cpos : Pos} {fo : De} {fa : Da} (ho : SE g X W n o fo) (ha : SA g X W n [e] fa) (M : MForm X o "split" e [] apos cpos := by exact ⟨rfl, rfl, rfl, rfl, rfl⟩) :
    SE g X W n (.Call (.Attribute o "split" apos) [e] [] cpos) (dM "str" kSplit fo fa) :=
  e_meth PySem.F.plainAttrs_str PySem.F.slot_str_split PySem.F.type_str_split m_split pm_split ho ha M
def rInDk (neg : Bool) : R2 := fun x y H Q => ∃ (a : Addr) (o : Option V), y = .ref a ∧ DGet H a x o ∧ Q (.bl (if neg then !o.isSome else o.isSome)) H
theorem o_inDk : OpC g .In (rInDk false) := by
  intro X hK hu pins s σ H x y v u Q I rx ry h
  obtain ⟨a, o, rfl, hg, q⟩ := h
  cases ry
  exact d_in (by omega) I hg rx fun s' I' => ⟨.bl _, H, I', rfl, q⟩
theorem o_notinDk : OpC g .NotIn (rInDk true) := by
  intro X hK hu pins s σ H x y v u Q I rx ry h
  obtain ⟨a, o, rfl, hg, q⟩ := h
  cases ry
  exact d_notIn (by omega) I hg rx fun s' I' => ⟨.bl _, H, I', rfl, q⟩
def hasDk (x y : Va) (h : Hs) : Option Bool := match y with
  | .ref r => match h[r]? with
    | some (.dK kvs) => (keyOf x).map fun k => (gK kvs k).isSome
    | _ => none
  | _ => none
def kInDk : K2 := fun x y h => (hasDk x y h).map fun b => (.bl b, h)
def kNotInDk : K2 := fun x y h => (hasDk x y h).map fun b => (.bl (!b), h)
theorem gK_isSome {κ : Type} [DecidableEq κ] {ρ : List Addr} {H : Hp} : ∀ {kvs : List (κ × Va)} {ws : List (κ × V)} {k : κ}, Rkv g ρ H kvs ws → (gK kvs k).isSome = (valV ws k).isSome
  | [], _, k, h => by cases h; rfl
  | (j, u) :: t, _, k, h => by
    obtain ⟨x, r, rfl, h1, h2⟩ := h
    unfold gK
    by_cases hj : j = k
    · rw [if_pos (decide_eq_true hj), valV_pos hj]; rfl
    · rw [if_neg (fun z => hj (of_decide_eq_true z)), valV_neg hj]
      exact gK_isSome h2
theorem hasDk_inv {ρ : List Addr} {H : Hp} {hp : Hs} {x y : Va} {vx vy : V} {b : Bool} (R : Rh g ρ H hp) (rx : Rv g ρ H x vx) (ry : Rv g ρ H y vy) (e : hasDk x y hp = some b) : ∃ a o, vy = .ref a ∧ DGet H a vx o ∧ b = o.isSome := by
  unfold hasDk at e
  split at e
  · rename_i r
    split at e
    · rename_i kvs hk
      obtain ⟨k, h1, rfl⟩ := Option.map_eq_some_iff.mp e
      simp only [Rv] at ry
      obtain ⟨a, ha, rfl⟩ := ry
      obtain ⟨ws, e2, rk⟩ := R.obj r a _ ha hk
      refine ⟨a, valV ws k, rfl, ?_, gK_isSome rk⟩
      rw [keyOf_rv rx h1]
      exact DGet.k e2
    · cases e
  · cases e
theorem p_inDk : P2 g (rInDk false) kInDk := by
  intro ρ H hp x y vx vy v h' Q R rx ry e q
  obtain ⟨b, hb, e⟩ := Option.map_eq_some_iff.mp e
  cases e
  obtain ⟨a, o, h1, h2, rfl⟩ := hasDk_inv R rx ry hb
  exact ⟨a, o, h1, h2, q ρ H _ (.refl _ _) R mk_bl⟩
theorem p_notinDk : P2 g (rInDk true) kNotInDk := by
  intro ρ H hp x y vx vy v h' Q R rx ry e q
  obtain ⟨b, hb, e⟩ := Option.map_eq_some_iff.mp e
  cases e
  obtain ⟨a, o, h1, h2, rfl⟩ := hasDk_inv R rx ry hb
  exact ⟨a, o, h1, h2, q ρ H _ (.refl _ _) R mk_bl⟩
end
end Wr
set_option Elab.async false
set_option linter.all false
set_option maxRecDepth 100000
set_option maxHeartbeats 4000000
set_option autoImplicit false
namespace Wr
open PySem PySem.Spec PyProof.Rows L2
def repS (z : Str) (k : Int) : Str := ⟨(List.replicate k.toNat z.cps).foldl (· ++ ·) #[]⟩
def repOk (z : Str) (k : Int) : Bool := decide (2 ≤ k) && (decide (k ≤ 1000) && (decide (0 < z.length) && (decide (z.length ≤ 1000) && okN (repS z k).length)))
def rRepS : R2 := fun x y H Q => ∃ z k, x = .str z ∧ y = .int k ∧ repOk z k = true ∧ Q (.str (repS z k)) H
theorem op_repS {X : Cx} : OpR X (binaryOp .Mult) rRepS := by
  intro pins s σ H x y v u Q I rx ry h
  obtain ⟨z, k, rfl, rfl, hk, q⟩ := h
  unfold repOk at hk
  simp only [Bool.and_eq_true, decide_eq_true_eq] at hk
  obtain ⟨h1, h2, h3, h4, h5⟩ := hk
  obtain ⟨t, rfl⟩ := rx
  obtain ⟨t', rfl⟩ := ry
  have hm : (z.length : Int) * k ≤ 1000 * 1000 := Int.mul_le_mul (by omega) h2 (by omega) (by omega)
  refine P.mul_str (x := z) (n := k) ?_ (fun _ _ => ?_) (fun _ _ => ?_) ?_
  · rw [decide_eq_false (by omega), decide_eq_false (by omega)]
    rfl
  · have : (z.length : Int) ≤ (2 ^ 63 - 1) / k := Int.le_ediv_of_mul_le (by omega) (by omega)
    omega
  · have e : ((z.length * k.toNat : Nat) : Int) ≤ 1000 * 1000 := by
      rw [Int.natCast_mul, Int.toNat_of_nonneg (by omega)]
      exact hm
    unfold Builtin.Str.tooLong
    rw [sizeLine_eq]
    exact decide_eq_false (by omega)
  · rw [if_neg (by omega), if_neg (by
      simp only [Bool.or_eq_true, beq_iff_eq, not_or]
      exact ⟨by omega, by omega⟩)]
    exact ⟨okN_le h5, ⟨.str (repS z k), H, I.tok _, ⟨_, rfl⟩, q⟩⟩
section
variable {g : Gd}
def kRepS : K2 := fun x y h => match x, y with
  | .str z, .int k => if repOk z k = true then some (.str (repS z k), h) else none
  | _, _ => none
theorem o_repS : ∀ X : Cx, X.K = g.K → OpR X (binaryOp .Mult) rRepS := fun _ _ => op_repS
theorem p_repS : P2 g rRepS kRepS := by
  intro ρ H hp x y vx vy v h' Q R rx ry e q
  unfold kRepS at e
  split at e
  · rename_i z k
    by_cases hz : repOk z k = true
    · rw [if_pos hz] at e
      cases e
      refine ⟨z, k, ?_, rv_int ry, hz, q ρ H _ (.refl _ _) R (by simp only [Rv])⟩
      simpa only [Rv] using rx
    · rw [if_neg hz] at e; cases e
  · cases e
end
end Wr
set_option Elab.async false
set_option linter.all false
set_option maxRecDepth 100000
set_option maxHeartbeats 4000000
set_option autoImplicit false
namespace Wr
open PySem PySem.Spec PyProof.Rows L2
end Wr
set_option Elab.async false
set_option linter.all false
set_option maxRecDepth 100000
set_option maxHeartbeats 4000000
set_option autoImplicit false
namespace Pg
open PySem PySem.Spec PyProof.Rows L2 Wr
def D_wish_text : Fn := fnD 2
    (dRet (dM "str" kJoin (dC (.str (Str.mk #[]))) (aCons (dComp [1] (dIt (dVar 0)) (.nm 1) dYes (dOp kIxU (dC c_NAMES) (dVar 1))) aNil)))
def wish_text : Fn := D_wish_text
def D_step_text (F_wish_text : Fn) : Fn := fnD 3
    (dSeq (dSet 1 (dComp [2] (dIt (dSl (dVar 0) (oSome (dC (.int 1))) oNone)) (.nm 2) dYes (dCall F_wish_text 1 (aCons (dOp kIxU (dC c_WISHES) (dVar 2)) aNil))))
    (dRet (dM "str" kJoin (dC (.str (Str.mk #[32]))) (aCons (dOp kAdd (dIf (dTest (dOp kNe (dOp kIxU (dVar 0) (dC (.int 0))) (dC (.str (Str.mk #[99, 104, 97, 110, 103, 101]))))) (dLst (aCons (dOp kIxU (dDisp [((dC (.str (Str.mk #[97, 100, 100]))), (dC (.str (Str.mk #[43])))), ((dC (.str (Str.mk #[100, 114, 111, 112]))), (dC (.str (Str.mk #[45]))))]) (dOp kIxU (dVar 0) (dC (.int 0)))) aNil)) (dLst aNil)) (dVar 1)) aNil))))
def step_text : Fn := D_step_text wish_text
def D__law_can_be (F__law_wishes : Fn) : Fn := fnD 10
    (dSeq (dSet 1 (dComp [3] (dIt (dCall0 F__law_wishes)) (.nm 3) dYes (dM "str" kJoin (dC (.str (Str.mk #[]))) (aCons (dComp [2] (dIt (dVar 3)) (.nm 2) dYes (dOp kIxU (dC (.str (Str.mk #[97, 98, 99]))) (dVar 2))) aNil))))
    (dSeq (dPar [4, 5] (aCons (dOp kMul (dLst (aCons (dC (.int 0)) aNil)) (dC (.int 6))) (aCons (dM "str" kSplit (dVar 0) (aCons (dC (.str (Str.mk #[10]))) aNil)) aNil)))
    (dSeq (dForC [1, 4, 5] (dIt (dSl (dVar 5) oNone (oSome (dNeg (dC (.int 1)))))) (.nm 6) (dSeq (dIfS (dOr (dTest (dOp kNotIn (dB kLen (aCons (dVar 6) aNil)) (dTup (aCons (dC (.int 5)) (aCons (dC (.int 7)) aNil))))) (dOr (dTest (dOp kNe (dOp kIxU (dVar 6) (dNeg (dC (.int 4)))) (dC (.str (Str.mk #[32]))))) (dTest (dOp kNotIn (dSl (dVar 6) (oSome (dNeg (dC (.int 3)))) oNone) (dVar 1))))) (dRet (dC (.bl false))) dNx)
    (dSeq (dPar [7, 8] (aCons (dSl (dVar 6) oNone (oSome (dNeg (dC (.int 4))))) (aCons (dM2 "tuple" kIndexT "list" kIndexL (dVar 1) (aCons (dSl (dVar 6) (oSome (dNeg (dC (.int 3)))) oNone) aNil)) aNil)))
    (dSeq (dIfS (dTest (dOp kNotIn (dVar 7) (dOp kAdd (dLst (aCons (dC (.str (Str.mk #[43]))) (aCons (dC (.str (Str.mk #[45]))) aNil))) (dVar 1)))) (dRet (dC (.bl false))) dNx)
    (dSeq (dIfS (dTest (dOp kNe (dVar 7) (dC (.str (Str.mk #[43]))))) (dSeq (dSet 9 (dIf (dTest (dOp kEq (dVar 7) (dC (.str (Str.mk #[45]))))) (dVar 8) (dM2 "tuple" kIndexT "list" kIndexL (dVar 1) (aCons (dVar 7) aNil))))
    (dSeq (dIfS (dTest (dOp kEq (dOp kIxU (dVar 4) (dVar 9)) (dC (.int 0)))) (dRet (dC (.bl false))) dNx)
    (dPutK kPut (dVar 4) (dVar 9) (dOp kSub (dOp kIxU (dVar 4) (dVar 9)) (dC (.int 1)))))) dNx)
    (dPutK kPut (dVar 4) (dVar 8) (dOp kAdd (dOp kIxU (dVar 4) (dVar 8)) (dB kInt (aCons (dOp kNe (dVar 7) (dC (.str (Str.mk #[45])))) aNil)))))))))
    (dRet (dOp kEq (dOp kIxU (dVar 5) (dNeg (dC (.int 1)))) (dC (.str (Str.mk #[]))))))))
def _law_can_be : Fn := D__law_can_be _law_wishes
end Pg
set_option Elab.async false
set_option linter.all false
set_option maxRecDepth 100000
set_option maxHeartbeats 4000000
set_option autoImplicit false
namespace Pg
open PySem PySem.Spec PyProof.Rows L2 Wr
def D_Poll___init__ : Fn := fnD 1
    (dSeq (dFldS "now" (dVar 0) (dOp kRepT (dTup (aCons (dC (.int 0)) aNil)) (dC (.int 6))))
    (dSeq (dFldS "past" (dVar 0) (dLst aNil))
    (dFldS "later" (dVar 0) (dLst aNil))))
def D_Poll_go : Fn := fnD 3
    (dSeq (dExpr (dM "list" kAppend (dFld "past" (dVar 0)) (aCons (dTup (aCons (dVar 1) (aCons (dFld "now" (dVar 0)) aNil))) aNil)))
    (dSeq (dFldS "later" (dVar 0) (dLst aNil))
    (dFldS "now" (dVar 0) (dVar 2))))
def D_Poll_add (F_look_number : Fn) (F_Poll_go : Fn) : Fn := fnD 3
    (dSeq (dExpr (dCall F_look_number 1 (aCons (dVar 1) aNil)))
    (dSeq (dIfS (dTest (dOp kEq (dOp kIxU (dFld "now" (dVar 0)) (dVar 1)) (dC c_GREATEST))) (dRaise 1) dNx)
    (dSeq (dSet 2 (dOp kAdd (dOp kAdd (dSl (dFld "now" (dVar 0)) oNone (oSome (dVar 1))) (dTup (aCons (dOp kAdd (dOp kIxU (dFld "now" (dVar 0)) (dVar 1)) (dC (.int 1))) aNil))) (dSl (dFld "now" (dVar 0)) (oSome (dOp kAdd (dVar 1) (dC (.int 1)))) oNone)))
    (dSeq (dExpr (dMeth "go" F_Poll_go 3 (dVar 0) (aCons (dTup (aCons (dC (.str (Str.mk #[97, 100, 100]))) (aCons (dVar 1) aNil))) (aCons (dVar 2) aNil))))
    (dRet (dOp kIxU (dVar 2) (dVar 1)))))))
def D_Poll_drop (F_changed : Fn) (F_Poll_go : Fn) : Fn := fnD 3
    (dSeq (dSet 2 (dCall F_changed 3 (aCons (dFld "now" (dVar 0)) (aCons (dVar 1) (aCons (dVar 1) aNil)))))
    (dSeq (dSet 2 (dOp kAdd (dOp kAdd (dSl (dVar 2) oNone (oSome (dVar 1))) (dTup (aCons (dOp kSub (dOp kIxU (dVar 2) (dVar 1)) (dC (.int 1))) aNil))) (dSl (dVar 2) (oSome (dOp kAdd (dVar 1) (dC (.int 1)))) oNone)))
    (dSeq (dExpr (dMeth "go" F_Poll_go 3 (dVar 0) (aCons (dTup (aCons (dC (.str (Str.mk #[100, 114, 111, 112]))) (aCons (dVar 1) aNil))) (aCons (dVar 2) aNil))))
    (dRet (dOp kIxU (dVar 2) (dVar 1))))))
def D_Poll_change (F_changed : Fn) (F_Poll_go : Fn) : Fn := fnD 4
    (dSeq (dSet 3 (dCall F_changed 3 (aCons (dFld "now" (dVar 0)) (aCons (dVar 1) (aCons (dVar 2) aNil)))))
    (dSeq (dExpr (dMeth "go" F_Poll_go 3 (dVar 0) (aCons (dTup (aCons (dC (.str (Str.mk #[99, 104, 97, 110, 103, 101]))) (aCons (dVar 1) (aCons (dVar 2) aNil)))) (aCons (dVar 3) aNil))))
    (dRet (dOp kIxU (dVar 3) (dVar 2)))))
def D_Poll_book : Fn := fnD 1
    (dRet (dFld "now" (dVar 0)))
def D_Poll_steps : Fn := fnD 3
    (dRet (dComp [1, 2] (dIt (dFld "past" (dVar 0))) (.tp [1, 2]) dYes (dVar 1)))
def Poll___init__ : Fn := D_Poll___init__
def Poll_go : Fn := D_Poll_go
def Poll_add : Fn := D_Poll_add look_number Poll_go
def Poll_drop : Fn := D_Poll_drop changed Poll_go
def Poll_change : Fn := D_Poll_change changed Poll_go
def Poll_book : Fn := D_Poll_book
def Poll_steps : Fn := D_Poll_steps
end Pg
set_option Elab.async false
set_option linter.all false
set_option maxRecDepth 100000
set_option maxHeartbeats 4000000
set_option autoImplicit false
namespace Wr
open PySem PySem.Spec PyProof.Rows L2
def dTryX (cl : List Nat) (d y : Nat) (f : Ds) : Ds := fun s h => match f s h with
  | .ex c s1 h1 => if (cl.contains c && (decide (c < 100) && subC c d)) = true then .ex (y + 100) s1 h1 else .no
  | r => r
section
variable {g : Gd} {X : Cx} {W : WX} {n : Nat} {pos pos' np p p2 p3 p4 : Pos} {cl : List Nat}
theorem s_tryX (d y : Nat) {x yx m : Str} {j : Nat} {body : List Stmt} {f : Ds} (E : Exn g X.mg cl)
    (hb : ∀ (pn : List (Addr × Obj)) (xe : Value → Shared → Prop) (W : WX), SB g (X.tr pn xe) W (n + 1) body f)
    (hd : d ∈ cl := by decide) (hy : y ∈ cl := by decide) (hyl : y < 100 := by decide) (hx : clsNm d = x := by rfl) (hyx : clsNm y = yx := by rfl)
    (hs : X.stack = X.env :: X.outer := by rfl) (hf : X.env.frame = some X.env.locals := by rfl) (hg : Gl X x := by rfl) (hdb : (x == ("__debug__" : Str)) = false := by decide) (hg2 : Gl X yx := by rfl) (hdb2 : (yx == ("__debug__" : Str)) = false := by decide)
    (hpa : ∀ hd : Option Value, PassesOwnAt (model X.prog X.w) (X.A.mark hd) X.A X.env X.xe := by exact L2H.passesAt_of rfl) :
    SS g X W (n + 1) (.Try body [.ExceptHandler (some (.Name x np)) none [.Raise (some (.Call (.Name yx p) [.Constant (.str m) j p2] [] p3)) none p4] pos'] [] [] pos) (dTryX cl d y f) := by
  intro C
  subst hx hyx
  refine (L2H.ps_try_onlyX (c := .ref (g.G d)) (Wout := fun cls d σ H => d = none ∧ W cls (some 0) σ H) (ts := fun _ _ _ _ σ H => (none : Option Addr) = none ∧ W (.ref (g.G y)) (some 0) σ H) (tb := fun WW => tS g (fun cls d σ H => d = none ∧ WW cls none σ H) f)
    hs hf ⟨hg, hdb, .inl (E.mg d hd)⟩ hpa C.tk.2
    (fun WW pn xe tk1 _ ps => hb pn xe _ (Cz.mk1 C.K ⟨L2N.Takes.imp tk1 fun c d σ H h => by obtain ⟨rfl, _, h⟩ := h; exact h, fun u s' x => by
      obtain ⟨_, _, _, _, _, _, _, _, _, _, _, _, _, _, _, _, w⟩ := x
      exact nomatch w.2.1⟩ C.calm C.nd C.room ps))
    (fun a oe cls d' pn hz hv tk hot => pss_one (L2H.ps_raiseH hot tk (L2N.pmk_own (F := PySem.F.excBase_ValueError) (C := g.G y) (by show PySem.W.excIn X.K _ _ _ = true; rw [C.K]; exact E.own y hy) (E.mg y hy) (by show PySem.W.keepIn X.K _ = true; rw [C.K]; exact E.kp y hy) (raises_own (by show PySem.W.subIn X.K _ _ = _; rw [C.K]; exact E.sub y hy) (by show PySem.W.typeIn X.K _ = _; rw [C.K]; exact E.ty y hy)) hg2 hdb2)))).imp ?_
  rintro D σ H ⟨ρ, s, hp, R, L, h⟩
  refine ⟨ρ, s, hp, R, L, ?_⟩
  unfold dTryX at h
  cases q : f s hp with
  | nx s1 h1 => rw [q] at h; exact h
  | rt v h1 => rw [q] at h; exact h
  | bk s1 h1 => rw [q] at h; exact h
  | ct s1 h1 => rw [q] at h; exact h
  | no => rw [q] at h; exact h
  | ex c s1 h1 =>
    rw [q] at h
    dsimp only at h
    by_cases z : (cl.contains c && (decide (c < 100) && subC c d)) = true
    · rw [if_pos z] at h
      simp only [Bool.and_eq_true, decide_eq_true_eq] at z
      have hc := List.contains_iff_mem.mp z.1
      intro ρ1 H1 σ1 S1 R1 L1
      have h2 := h ρ1 H1 σ1 S1 R1 L1
      have e1 : (y + 100) % 100 = y := by omega
      have e2 : dty (y + 100) = some 0 := by unfold dty; rw [if_neg (by omega)]
      rw [e1, e2] at h2
      refine ⟨by unfold dty; rw [if_pos z.2.1], true, ?_, fun _ a _ => ⟨rfl, h2⟩, fun z => nomatch z⟩
      rw [Nat.mod_eq_of_lt z.2.1, C.K, E.exm c hc d hd, z.2.2]
    · rw [if_neg z] at h
      exact h.elim
end
end Wr
set_option Elab.async false
set_option linter.all false
set_option maxRecDepth 100000
set_option maxHeartbeats 4000000
set_option autoImplicit false
namespace Pg
open PySem PySem.Spec PyProof.Rows L2 Wr
def D_poll_text (F_Poll_steps : Fn) (F_step_text : Fn) : Fn := fnD 2
    (dRet (dM "str" kJoin (dC (.str (Str.mk #[]))) (aCons (dComp [1] (dIt (dMeth0 "steps" F_Poll_steps (dVar 0))) (.nm 1) dYes (dOp kAdd (dCall F_step_text 1 (aCons (dVar 1) aNil)) (dC (.str (Str.mk #[10]))))) aNil)))
def D_do_line (F_Poll_add : Fn) (F_Poll_drop : Fn) (F_Poll_change : Fn) : Fn := fnD 3
    (dSeq (dIfS (dOr (dTest (dOp kNe (dB kLen (aCons (dVar 1) aNil)) (dC (.int 2)))) (dTest (dOp kNotInDk (dOp kIxU (dVar 1) (dC (.int 1))) (dVar 2)))) (dRaise 6) dNx)
    (dIfS (dTest (dOp kEq (dOp kIxU (dVar 1) (dC (.int 0))) (dC (.str (Str.mk #[43]))))) (dExpr (dMeth "add" F_Poll_add 2 (dVar 0) (aCons (dOp kIxU (dVar 2) (dOp kIxU (dVar 1) (dC (.int 1)))) aNil))) (dIfS (dTest (dOp kEq (dOp kIxU (dVar 1) (dC (.int 0))) (dC (.str (Str.mk #[45]))))) (dExpr (dMeth "drop" F_Poll_drop 2 (dVar 0) (aCons (dOp kIxU (dVar 2) (dOp kIxU (dVar 1) (dC (.int 1)))) aNil))) (dIfS (dTest (dOp kInDk (dOp kIxU (dVar 1) (dC (.int 0))) (dVar 2))) (dExpr (dMeth "change" F_Poll_change 3 (dVar 0) (aCons (dOp kIxU (dVar 2) (dOp kIxU (dVar 1) (dC (.int 0)))) (aCons (dOp kIxU (dVar 2) (dOp kIxU (dVar 1) (dC (.int 1)))) aNil)))) (dRaise 6)))))
def poll_text : Fn := D_poll_text Poll_steps step_text
def do_line : Fn := D_do_line Poll_add Poll_drop Poll_change
end Pg
set_option Elab.async false
set_option linter.all false
set_option maxRecDepth 100000
set_option maxHeartbeats 4000000
set_option autoImplicit false
namespace K43
open PySem PySem.Spec PyProof.Rows L2 Wr Pg
def top (i : Nat) : Stmt := PySem.Challenge.pw_wishrules_k43_whole_poll_texts_spoilt.main.body.getD i (.Pass ⟨0, 0, 0, 0⟩)
def mth (st : Stmt) (j : Nat) : Stmt := match st with
  | .ClassDef _ _ _ b _ _ _ _ _ _ _ => b.getD j (.Pass ⟨0, 0, 0, 0⟩)
  | _ => .Pass ⟨0, 0, 0, 0⟩
abbrev s_Poll___init__ : Stmt := mth (top 41) 0
abbrev s_is_whole : Stmt := top 14
abbrev s_is_book : Stmt := top 15
abbrev s_look_book : Stmt := top 16
abbrev s_look_number : Stmt := top 34
abbrev s_changed_to : Stmt := top 35
abbrev s_changed : Stmt := top 36
abbrev s_Poll_go : Stmt := mth (top 41) 1
abbrev s_Poll_change : Stmt := mth (top 41) 4
abbrev s_Poll_add : Stmt := mth (top 41) 2
abbrev s_Poll_drop : Stmt := mth (top 41) 3
abbrev s__law_did : Stmt := top 54
abbrev s__law_cell : Stmt := top 47
abbrev s__law_pick : Stmt := top 48
abbrev s__law_deed : Stmt := top 52
abbrev s_Poll_book : Stmt := mth (top 41) 6
abbrev s_Poll_steps : Stmt := mth (top 41) 7
abbrev s_wish_text : Stmt := top 39
abbrev s_step_text : Stmt := top 42
abbrev s_poll_text : Stmt := top 43
abbrev s__law_spoilt : Stmt := top 55
abbrev s_do_line : Stmt := top 44
abbrev s_read_poll : Stmt := top 45
abbrev s__law_wishes : Stmt := top 51
abbrev s__law_can_be : Stmt := top 56
abbrev s_law : Stmt := top 57
abbrev s__law_class : Stmt := top 49
abbrev s__law_told : Stmt := top 50
structure Ft (g : Gd) (mg : Str → Option Value) (base : Heap) : Prop where
  cold : g.hot = none
  b_ValueError : mg "ValueError" = none
  b_all : mg "all" = none
  b_bool : mg "bool" = none
  b_dict : mg "dict" = none
  b_enumerate : mg "enumerate" = none
  b_int : mg "int" = none
  b_isinstance : mg "isinstance" = none
  b_len : mg "len" = none
  b_list : mg "list" = none
  b_range : mg "range" = none
  b_str : mg "str" = none
  b_tuple : mg "tuple" = none
  m___init__ : Meth g.K (g.G 8) "__init__" (He.ma g.K (g.G 8) "__init__")
  d_Poll___init__ : FnM g.K "__init__" "Poll.__init__" s_Poll___init__ (He.ma g.K (g.G 8) "__init__")
  f_is_whole : mg "is_whole" = some (.ref (He.ga g.K "is_whole"))
  d_is_whole : FnP g.K "is_whole" s_is_whole
  f_is_book : mg "is_book" = some (.ref (He.ga g.K "is_book"))
  d_is_book : FnP g.K "is_book" s_is_book
  f_look_book : mg "look_book" = some (.ref (He.ga g.K "look_book"))
  d_look_book : FnP g.K "look_book" s_look_book
  f_look_number : mg "look_number" = some (.ref (He.ga g.K "look_number"))
  d_look_number : FnP g.K "look_number" s_look_number
  f_changed_to : mg "changed_to" = some (.ref (He.ga g.K "changed_to"))
  d_changed_to : FnP g.K "changed_to" s_changed_to
  f_changed : mg "changed" = some (.ref (He.ga g.K "changed"))
  d_changed : FnP g.K "changed" s_changed
  m_go : Meth g.K (g.G 8) "go" (He.ma g.K (g.G 8) "go")
  d_Poll_go : FnM g.K "go" "Poll.go" s_Poll_go (He.ma g.K (g.G 8) "go")
  m_change : Meth g.K (g.G 8) "change" (He.ma g.K (g.G 8) "change")
  d_Poll_change : FnM g.K "change" "Poll.change" s_Poll_change (He.ma g.K (g.G 8) "change")
  m_add : Meth g.K (g.G 8) "add" (He.ma g.K (g.G 8) "add")
  d_Poll_add : FnM g.K "add" "Poll.add" s_Poll_add (He.ma g.K (g.G 8) "add")
  m_drop : Meth g.K (g.G 8) "drop" (He.ma g.K (g.G 8) "drop")
  d_Poll_drop : FnM g.K "drop" "Poll.drop" s_Poll_drop (He.ma g.K (g.G 8) "drop")
  f__law_did : mg "_law_did" = some (.ref (He.ga g.K "_law_did"))
  d__law_did : FnP g.K "_law_did" s__law_did
  f__law_cell : mg "_law_cell" = some (.ref (He.ga g.K "_law_cell"))
  d__law_cell : FnP g.K "_law_cell" s__law_cell
  f__law_pick : mg "_law_pick" = some (.ref (He.ga g.K "_law_pick"))
  d__law_pick : FnP g.K "_law_pick" s__law_pick
  f__law_deed : mg "_law_deed" = some (.ref (He.ga g.K "_law_deed"))
  d__law_deed : FnP g.K "_law_deed" s__law_deed
  m_book : Meth g.K (g.G 8) "book" (He.ma g.K (g.G 8) "book")
  d_Poll_book : FnM g.K "book" "Poll.book" s_Poll_book (He.ma g.K (g.G 8) "book")
  m_steps : Meth g.K (g.G 8) "steps" (He.ma g.K (g.G 8) "steps")
  d_Poll_steps : FnM g.K "steps" "Poll.steps" s_Poll_steps (He.ma g.K (g.G 8) "steps")
  f_wish_text : mg "wish_text" = some (.ref (He.ga g.K "wish_text"))
  d_wish_text : FnP g.K "wish_text" s_wish_text
  f_step_text : mg "step_text" = some (.ref (He.ga g.K "step_text"))
  d_step_text : FnP g.K "step_text" s_step_text
  f_poll_text : mg "poll_text" = some (.ref (He.ga g.K "poll_text"))
  d_poll_text : FnP g.K "poll_text" s_poll_text
  f__law_spoilt : mg "_law_spoilt" = some (.ref (He.ga g.K "_law_spoilt"))
  d__law_spoilt : FnP g.K "_law_spoilt" s__law_spoilt
  f_do_line : mg "do_line" = some (.ref (He.ga g.K "do_line"))
  d_do_line : FnP g.K "do_line" s_do_line
  f_read_poll : mg "read_poll" = some (.ref (He.ga g.K "read_poll"))
  d_read_poll : FnP g.K "read_poll" s_read_poll
  f__law_wishes : mg "_law_wishes" = some (.ref (He.ga g.K "_law_wishes"))
  d__law_wishes : FnP g.K "_law_wishes" s__law_wishes
  f__law_can_be : mg "_law_can_be" = some (.ref (He.ga g.K "_law_can_be"))
  d__law_can_be : FnP g.K "_law_can_be" s__law_can_be
  f_law : mg "law" = some (.ref (He.ga g.K "law"))
  d_law : FnP g.K "law" s_law
  f__law_class : mg "_law_class" = some (.ref (He.ga g.K "_law_class"))
  d__law_class : FnP g.K "_law_class" s__law_class
  f__law_told : mg "_law_told" = some (.ref (He.ga g.K "_law_told"))
  d__law_told : FnP g.K "_law_told" s__law_told
  cin : Cin g mg
  c_GREATEST : Con1 g mg "GREATEST" c_GREATEST
  c_NAMES : Con1 g mg "NAMES" c_NAMES
  c_WISHES : Con1 g mg "WISHES" c_WISHES
  exn : Exn g mg [0, 1, 2, 3, 4, 5, 6, 7]
  tb__law_did : LamX.TabB base mg (He.cT g.K ("_law_did", none)).1 (He.cT g.K ("_law_did", none)).2
  tm__law_did : ((He.cT g.K ("_law_did", none)).2, lamQ "_law_did") ∈ g.T
  tu__law_did : ∀ p ∈ g.T, p.1 = (He.cT g.K ("_law_did", none)).2 → p.2 = lamQ "_law_did"
  tb_law : LamX.TabB base mg (He.cT g.K ("law", none)).1 (He.cT g.K ("law", none)).2
  tm_law : ((He.cT g.K ("law", none)).2, lamQ "law") ∈ g.T
  tu_law : ∀ p ∈ g.T, p.1 = (He.cT g.K ("law", none)).2 → p.2 = lamQ "law"
def wd : Nat → Str := wdOf D__law_class_v2
def D__law_did (F_Poll_change : Fn) (F_Poll_add : Fn) (F_Poll_drop : Fn) : Fn := fnD 2
    (dSeq (dIfS (dTest (dOp kEq (dOp kIxU (dVar 1) (dC (.int 0))) (dC (.str (Str.mk #[99, 104, 97, 110, 103, 101]))))) (dRet (dTold [0, 1, 2, 3, 4, 5, 6, 7] wd (dMeth "change" F_Poll_change 3 (dVar 0) (aCons (dOp kIxU (dVar 1) (dC (.int 1))) (aCons (dOp kIxU (dVar 1) (dC (.int 2))) aNil))))) dNx)
    (dRet (dTold [0, 1, 2, 3, 4, 5, 6, 7] wd (dIf (dTest (dOp kEq (dOp kIxU (dVar 1) (dC (.int 0))) (dC (.str (Str.mk #[97, 100, 100]))))) (dMeth "add" F_Poll_add 2 (dVar 0) (aCons (dOp kIxU (dVar 1) (dC (.int 1))) aNil)) (dMeth "drop" F_Poll_drop 2 (dVar 0) (aCons (dOp kIxU (dVar 1) (dC (.int 1))) aNil))))))
def _law_did : Fn := D__law_did Poll_change Poll_add Poll_drop
def D_read_poll_t (F_wish_text : Fn) (F_Poll___init__ : Fn) (F_do_line : Fn) : Fn := fnD 6
    (dSeq (dIfS (dOr (dNot (dTest (dB kIsi (aCons (dVar 0) (aCons (dC (.ty "str")) aNil))))) (dTest (dOp kNe (dOp kIxU (dM "str" kSplit (dVar 0) (aCons (dC (.str (Str.mk #[10]))) aNil)) (dNeg (dC (.int 1)))) (dC (.str (Str.mk #[])))))) (dRaise 6) dNx)
    (dSeq (dSet 1 (dB kDict (aCons (dComp [2, 3] (dEnum (aCons (dC c_WISHES) aNil)) (.tp [2, 3]) dYes (dTup (aCons (dCall F_wish_text 1 (aCons (dVar 3) aNil)) (aCons (dVar 2) aNil)))) aNil)))
    (dSeq (dSet 4 (dMake F_Poll___init__))
    (dSeq (dForC [1, 4] (dIt (dSl (dM "str" kSplit (dVar 0) (aCons (dC (.str (Str.mk #[10]))) aNil)) oNone (oSome (dNeg (dC (.int 1)))))) (.nm 5) (dTryX [0, 1, 2, 3, 4, 5, 6, 7] 0 6 (dExpr (dCall F_do_line 3 (aCons (dVar 4) (aCons (dM "str" kSplit (dVar 5) (aCons (dC (.str (Str.mk #[32]))) aNil)) (aCons (dVar 1) aNil)))))))
    (dRet (dVar 4))))))
def read_poll_t : Fn := D_read_poll_t wish_text Poll___init__ do_line
def P_law_1 (F__law_did : Fn) (F__law_deed : Fn) (F_Poll_book : Fn) (n0 : Nat) (s : Sg) (h : Hs) : RS :=
    (dExpr (dCall F__law_did 2 (aCons (dVar 1) (aCons (dCall F__law_deed 3 (aCons (dVar 0) (aCons (dOp kAdd (dC (.int 100)) (dOp kMul (dC (.int 10)) (dVar 2))) (aCons (dMeth0 "book" F_Poll_book (dVar 1)) aNil)))) aNil)))) s h
def P_law_2 (n0 : Nat) (s : Sg) (h : Hs) : RS :=
    (dExpr (dM "list" kAppend (dVar 5) (aCons (dM "str" kJoin (dC (.str (Str.mk #[10]))) (aCons (dOp kAdd (dOp kAdd (dSl (dVar 4) oNone (oSome (dVar 7))) (dRev (dVar 8))) (dSl (dVar 4) (oSome (dOp kAdd (dVar 7) (dC (.int 2)))) oNone)) aNil)) aNil))) s h
def P_law_3 (n0 : Nat) (s : Sg) (h : Hs) : RS :=
    (dExpr (dM "list" kAppend (dVar 5) (aCons (dM "str" kJoin (dC (.str (Str.mk #[10]))) (aCons (dOp kAdd (dSl (dVar 4) oNone (oSome (dOp kAdd (dVar 7) (dC (.int 1))))) (dSl (dVar 4) (oSome (dVar 7)) oNone)) aNil)) aNil))) s h
def P_law_4 (n0 : Nat) (s : Sg) (h : Hs) : RS :=
    (dExpr (dM "list" kAppend (dVar 5) (aCons (dM "str" kJoin (dC (.str (Str.mk #[10]))) (aCons (dOp kAdd (dSl (dVar 4) oNone (oSome (dVar 7))) (dSl (dVar 4) (oSome (dOp kAdd (dVar 7) (dC (.int 1)))) oNone)) aNil)) aNil))) s h
def P_law_5 (n0 : Nat) (s : Sg) (h : Hs) : RS :=
    (dSeqT n0 [0, 3, 4, 5, 7, 8] (P_law_4 n0)
    (dSeqT n0 [0, 3, 4, 5, 7, 8] (P_law_3 n0)
    (P_law_2 n0))) s h
def P_law_6 (n0 : Nat) (s : Sg) (h : Hs) : RS :=
    (dSet 8 (dSl (dVar 4) (oSome (dVar 7)) (oSome (dOp kAdd (dVar 7) (dC (.int 2)))))) s h
def P_law_7 (F__law_pick : Fn) (n0 : Nat) (s : Sg) (h : Hs) : RS :=
    (dSet 7 (dCall F__law_pick 3 (aCons (dVar 0) (aCons (dOp kAdd (dC (.int 1740)) (dVar 2)) (aCons (dB kLen (aCons (dVar 4) aNil)) aNil))))) s h
def P_law_8 (F__law_pick : Fn) (n0 : Nat) (s : Sg) (h : Hs) : RS :=
    (dSeqT n0 [0, 3, 4, 5, 7] (P_law_7 F__law_pick n0)
    (dSeqT n0 [0, 3, 4, 5, 7, 8] (P_law_6 n0)
    (P_law_5 n0))) s h
def P_law_9 (F__law_spoilt : Fn) (n0 : Nat) (s : Sg) (h : Hs) : RS :=
    (dExpr (dM "list" kAppend (dVar 5) (aCons (dCall F__law_spoilt 3 (aCons (dVar 3) (aCons (dVar 6) (aCons (dC (.str (Str.mk #[97, 98, 99, 43, 45, 32, 10]))) aNil)))) aNil))) s h
def P_law_10 (F__law_pick : Fn) (F__law_spoilt : Fn) (n0 : Nat) (s : Sg) (h : Hs) : RS :=
    (dSeqT n0 [0, 2, 3, 4, 5] (P_law_9 F__law_spoilt n0)
    (P_law_8 F__law_pick n0)) s h
def P_law_11 (F__law_cell : Fn) (F__law_pick : Fn) (n0 : Nat) (s : Sg) (h : Hs) : RS :=
    (dSet 6 (dOp kAdd (dOp kMul (dCall F__law_cell 2 (aCons (dVar 0) (aCons (dOp kAdd (dC (.int 1700)) (dVar 2)) aNil))) (dC (.int 7919))) (dCall F__law_pick 3 (aCons (dVar 0) (aCons (dOp kAdd (dC (.int 1720)) (dVar 2)) (aCons (dC (.int 999983)) aNil)))))) s h
def P_law_12 (F__law_cell : Fn) (F__law_pick : Fn) (F__law_spoilt : Fn) (n0 : Nat) (s : Sg) (h : Hs) : RS :=
    (dSeqT n0 [0, 2, 3, 4, 5, 6] (P_law_11 F__law_cell F__law_pick n0)
    (P_law_10 F__law_pick F__law_spoilt n0)) s h
def P_law_13 (F__law_can_be : Fn) (n0 : Nat) (s : Sg) (h : Hs) : RS :=
    (dIfS (dTest (dOp kNe (dVar 10) (dIf (dTest (dCall F__law_can_be 1 (aCons (dVar 9) aNil))) (dVar 9) (dC (.str (Str.mk #[110, 111, 32, 116, 101, 120, 116])))))) (dRet (dC (.bl false))) dNx) s h
def P_law_14 (F_poll_text : Fn) (F_read_poll : Fn) (n0 : Nat) (s : Sg) (h : Hs) : RS :=
    (dSet 10 (dTold [0, 1, 2, 3, 4, 5, 6, 7] wd (dCall F_poll_text 1 (aCons (dCall F_read_poll 1 (aCons (dVar 9) aNil)) aNil)))) s h
def P_law_15 (F_poll_text : Fn) (F_read_poll : Fn) (F__law_can_be : Fn) (n0 : Nat) (s : Sg) (h : Hs) : RS :=
    (dSeqT n0 [9, 10] (P_law_14 F_poll_text F_read_poll n0)
    (P_law_13 F__law_can_be n0)) s h
def P_law_16 (F_read_poll : Fn) (n0 : Nat) (s : Sg) (h : Hs) : RS :=
    (dRet (dOp kEq (dComp [9] (dIt (dVar 12)) (.nm 9) dYes (dTold [0, 1, 2, 3, 4, 5, 6, 7] wd (dCall F_read_poll 1 (aCons (dVar 9) aNil)))) (dOp kMul (dLst (aCons (dC (.str (Str.mk #[110, 111, 32, 116, 101, 120, 116]))) aNil)) (dC (.int 19))))) s h
def P_law_17 (n0 : Nat) (s : Sg) (h : Hs) : RS :=
    (dExpr (dM "list" kExtend (dVar 12) (aCons (dLst (aCons (dTup (aCons (dC (.str (Str.mk #[43, 32, 97, 98, 99, 10]))) aNil)) aNil)) aNil))) s h
def P_law_18 (n0 : Nat) (s : Sg) (h : Hs) : RS :=
    (dExpr (dM "list" kExtend (dVar 12) (aCons (dLst (aCons (dC (.str (Str.mk #[43, 32, 97, 98, 99, 10, 10]))) (aCons (dC (.str (Str.mk #[43, 32, 65, 98, 99, 10]))) (aCons (dC (.str (Str.mk #[43, 32, 97, 98, 99, 32, 97, 98, 99, 10]))) (aCons (dC (.str (Str.mk #[43, 32, 97, 98, 99, 10, 45, 32, 97, 98, 99, 10, 45, 32, 97, 98, 99, 10]))) (aCons (dOp kRepS (dC (.str (Str.mk #[43, 32, 97, 98, 99, 10]))) (dC (.int 100))) (aCons (dC .non) (aCons (dC (.int 5)) aNil)))))))) aNil))) s h
def P_law_19 (F_read_poll : Fn) (n0 : Nat) (s : Sg) (h : Hs) : RS :=
    (dSeqT n0 [12] (P_law_18 n0)
    (dSeqT n0 [12] (P_law_17 n0)
    (P_law_16 F_read_poll n0))) s h
def P_law_20 (n0 : Nat) (s : Sg) (h : Hs) : RS :=
    (dExpr (dM "list" kExtend (dVar 12) (aCons (dLst (aCons (dC (.str (Str.mk #[43, 32, 97, 98, 99, 32, 10]))) (aCons (dC (.str (Str.mk #[42, 32, 97, 98, 99, 10]))) aNil))) aNil))) s h
def P_law_21 (n0 : Nat) (s : Sg) (h : Hs) : RS :=
    (dSet 12 (dLst (aCons (dC (.str (Str.mk #[10]))) (aCons (dC (.str (Str.mk #[43, 32, 97, 98, 99]))) (aCons (dC (.str (Str.mk #[45, 32, 97, 98, 99, 10]))) (aCons (dC (.str (Str.mk #[97, 98, 99, 32, 99, 98, 97, 10]))) (aCons (dC (.str (Str.mk #[43, 32, 97, 98, 100, 10]))) (aCons (dC (.str (Str.mk #[43, 32, 97, 98, 10]))) (aCons (dC (.str (Str.mk #[43, 97, 98, 99, 10]))) (aCons (dC (.str (Str.mk #[43, 32, 32, 97, 98, 99, 10]))) (aCons (dC (.str (Str.mk #[32, 43, 32, 97, 98, 99, 10]))) aNil))))))))))) s h
def P_law_22 (F_read_poll : Fn) (n0 : Nat) (s : Sg) (h : Hs) : RS :=
    (dSeqT n0 [12] (P_law_21 n0)
    (dSeqT n0 [12] (P_law_20 n0)
    (P_law_19 F_read_poll n0))) s h
def P_law_23 (F_poll_text : Fn) (F_read_poll : Fn) (n0 : Nat) (s : Sg) (h : Hs) : RS :=
    (dIfS (dTest (dOp kNe (dComp [9] (dIt (dVar 11)) (.nm 9) dYes (dCall F_poll_text 1 (aCons (dCall F_read_poll 1 (aCons (dVar 9) aNil)) aNil))) (dVar 11))) (dRet (dC (.bl false))) dNx) s h
def P_law_24 (F_poll_text : Fn) (F_read_poll : Fn) (n0 : Nat) (s : Sg) (h : Hs) : RS :=
    (dSeqT n0 [] (P_law_23 F_poll_text F_read_poll n0)
    (P_law_22 F_read_poll n0)) s h
def P_law_25 (n0 : Nat) (s : Sg) (h : Hs) : RS :=
    (dSet 11 (dLst (aCons (dC (.str (Str.mk #[]))) (aCons (dC (.str (Str.mk #[43, 32, 97, 98, 99, 10]))) (aCons (dC (.str (Str.mk #[43, 32, 97, 98, 99, 10, 97, 98, 99, 32, 99, 98, 97, 10, 45, 32, 99, 98, 97, 10]))) (aCons (dC (.str (Str.mk #[43, 32, 98, 99, 97, 10, 98, 99, 97, 32, 98, 99, 97, 10]))) aNil)))))) s h
def P_law_26 (F_poll_text : Fn) (F_read_poll : Fn) (n0 : Nat) (s : Sg) (h : Hs) : RS :=
    (dSeqT n0 [11] (P_law_25 n0)
    (P_law_24 F_poll_text F_read_poll n0)) s h
def P_law_27 (F_poll_text : Fn) (F_read_poll : Fn) (F__law_can_be : Fn) (n0 : Nat) (s : Sg) (h : Hs) : RS :=
    (dForT [] (dIt (dVar 5)) (.nm 9) (fun n0 => (P_law_15 F_poll_text F_read_poll F__law_can_be n0))) s h
def P_law_28 (F_poll_text : Fn) (F_read_poll : Fn) (F__law_can_be : Fn) (n0 : Nat) (s : Sg) (h : Hs) : RS :=
    (dSeqT n0 [] (P_law_27 F_poll_text F_read_poll F__law_can_be n0)
    (P_law_26 F_poll_text F_read_poll n0)) s h
def P_law_29 (F__law_cell : Fn) (F__law_pick : Fn) (F__law_spoilt : Fn) (n0 : Nat) (s : Sg) (h : Hs) : RS :=
    (dForT [0, 3, 4, 5] (dRng1 (aCons (dC (.int 4)) aNil)) (.nm 2) (fun n0 => (P_law_12 F__law_cell F__law_pick F__law_spoilt n0))) s h
def P_law_30 (F_poll_text : Fn) (F__law_cell : Fn) (F__law_pick : Fn) (F__law_spoilt : Fn) (F_read_poll : Fn) (F__law_can_be : Fn) (n0 : Nat) (s : Sg) (h : Hs) : RS :=
    (dSeqT n0 [5] (P_law_29 F__law_cell F__law_pick F__law_spoilt n0)
    (P_law_28 F_poll_text F_read_poll F__law_can_be n0)) s h
def P_law_31 (n0 : Nat) (s : Sg) (h : Hs) : RS :=
    (dPar [4, 5] (aCons (dM "str" kSplit (dVar 3) (aCons (dC (.str (Str.mk #[10]))) aNil)) (aCons (dLst (aCons (dVar 3) aNil)) aNil))) s h
def P_law_32 (F_poll_text : Fn) (F__law_cell : Fn) (F__law_pick : Fn) (F__law_spoilt : Fn) (F_read_poll : Fn) (F__law_can_be : Fn) (n0 : Nat) (s : Sg) (h : Hs) : RS :=
    (dSeqT n0 [0, 3, 4, 5] (P_law_31 n0)
    (P_law_30 F_poll_text F__law_cell F__law_pick F__law_spoilt F_read_poll F__law_can_be n0)) s h
def P_law_33 (F_poll_text : Fn) (F__law_cell : Fn) (F__law_pick : Fn) (F__law_spoilt : Fn) (F_read_poll : Fn) (F__law_can_be : Fn) (n0 : Nat) (s : Sg) (h : Hs) : RS :=
    (dSeqT n0 [0, 3] (dSet 3 (dCall F_poll_text 1 (aCons (dVar 1) aNil)))
    (P_law_32 F_poll_text F__law_cell F__law_pick F__law_spoilt F_read_poll F__law_can_be n0)) s h
def P_law_34 (F__law_did : Fn) (F__law_deed : Fn) (F_Poll_book : Fn) (n0 : Nat) (s : Sg) (h : Hs) : RS :=
    (dForT [0, 1] (dRng1 (aCons (dC (.int 12)) aNil)) (.nm 2) (fun n0 => (P_law_1 F__law_did F__law_deed F_Poll_book n0))) s h
def P_law_35 (F__law_did : Fn) (F__law_deed : Fn) (F_Poll_book : Fn) (F_poll_text : Fn) (F__law_cell : Fn) (F__law_pick : Fn) (F__law_spoilt : Fn) (F_read_poll : Fn) (F__law_can_be : Fn) (n0 : Nat) (s : Sg) (h : Hs) : RS :=
    (dSeqT n0 [0, 1] (P_law_34 F__law_did F__law_deed F_Poll_book n0)
    (P_law_33 F_poll_text F__law_cell F__law_pick F__law_spoilt F_read_poll F__law_can_be n0)) s h
def P_law_36 (F_Poll___init__ : Fn) (F__law_did : Fn) (F__law_deed : Fn) (F_Poll_book : Fn) (F_poll_text : Fn) (F__law_cell : Fn) (F__law_pick : Fn) (F__law_spoilt : Fn) (F_read_poll : Fn) (F__law_can_be : Fn) (n0 : Nat) (s : Sg) (h : Hs) : RS :=
    (dSeqT n0 [0, 1] (dSet 1 (dMake F_Poll___init__))
    (P_law_35 F__law_did F__law_deed F_Poll_book F_poll_text F__law_cell F__law_pick F__law_spoilt F_read_poll F__law_can_be n0)) s h
def D_law (F_Poll___init__ : Fn) (F__law_did : Fn) (F__law_deed : Fn) (F_Poll_book : Fn) (F_poll_text : Fn) (F__law_cell : Fn) (F__law_pick : Fn) (F__law_spoilt : Fn) (F_read_poll : Fn) (F__law_can_be : Fn) : Fn := fnD 13
    (dBase fun n0 => (P_law_36 F_Poll___init__ F__law_did F__law_deed F_Poll_book F_poll_text F__law_cell F__law_pick F__law_spoilt F_read_poll F__law_can_be n0))
def law (ns : List Int) : Fn := D_law Poll___init__ _law_did (_law_deed ns) Poll_book poll_text (_law_cell ns) (_law_pick ns) _law_spoilt read_poll_t _law_can_be
theorem sc__law_told : FnScope ["deed", "e"] ["deed"] (defScope s__law_told) := ⟨rfl, rfl, rfl, by decide +kernel, rfl, by decide +kernel, by decide +kernel⟩
theorem bi__law_told : BindsAll "_law_told" s__law_told ["deed"] := fun _ _ _ _ _ _ us hl => match us, hl with | [_], _ => rfl
theorem is_told : IsTold s__law_told "deed" "WishError" "e" "_law_class" := ⟨_, _, _, _, _, _, _, _, _, _, rfl⟩
theorem sc__law_class : FnScope ["kept", "kinds", "some"] ["kept"] (defScope s__law_class) := ⟨rfl, rfl, rfl, by decide +kernel, rfl, by decide +kernel, by decide +kernel⟩
theorem bi__law_class : BindsAll "_law_class" s__law_class ["kept"] := fun _ _ _ _ _ _ us hl => match us, hl with | [_], _ => rfl
theorem hot__law_class {P : Program} {w : World} {g : Gd} {mg : Str → Option Value} {base : Heap} (t : Ft g mg base) {c : Nat} {wd : Str} {hz : Hs} (he : D__law_class_v2 [.exc c] [] = .ok (.str wd) hz) : HotT P w g mg base "_law_class" c wd :=
  hot_fn t.d__law_class t.f__law_class bi__law_class sc__law_class rfl (fun p f cdv A outer s H E =>
    (b_cons (s_set 1 (e_lst (a_cons (e_callX (call_isX (t.exn.hot p) rfl (hotIn rfl)) (p_isX (t.exn.hot p)) t.b_isinstance (a_cons (e_var 0) (a_cons (e_cls 7 (t.exn.hot p)) a_nil))) (a_cons (e_callX (call_isX (t.exn.hot p) rfl (hotIn rfl)) (p_isX (t.exn.hot p)) t.b_isinstance (a_cons (e_var 0) (a_cons (e_cls 1 (t.exn.hot p)) a_nil))) (a_cons (e_callX (call_isX (t.exn.hot p) rfl (hotIn rfl)) (p_isX (t.exn.hot p)) t.b_isinstance (a_cons (e_var 0) (a_cons (e_cls 3 (t.exn.hot p)) a_nil))) a_nil)))))
    (b_cons (s_set 1 (e_op o_add p_add (e_var 1) (e_lst (a_cons (e_callX (call_isX (t.exn.hot p) rfl (hotIn rfl)) (p_isX (t.exn.hot p)) t.b_isinstance (a_cons (e_var 0) (a_cons (e_cls 5 (t.exn.hot p)) a_nil))) (a_cons (e_callX (call_isX (t.exn.hot p) rfl (hotIn rfl)) (p_isX (t.exn.hot p)) t.b_isinstance (a_cons (e_var 0) (a_cons (e_cls 2 (t.exn.hot p)) a_nil))) (a_cons (e_callX (call_isX (t.exn.hot p) rfl (hotIn rfl)) (p_isX (t.exn.hot p)) t.b_isinstance (a_cons (e_var 0) (a_cons (e_cls 6 (t.exn.hot p)) a_nil))) a_nil))))))
    (b_cons (s_set 1 (e_op o_add p_add (e_var 1) (e_lst (a_cons (e_callX (call_isX (t.exn.hot p) rfl (hotIn rfl)) (p_isX (t.exn.hot p)) t.b_isinstance (a_cons (e_var 0) (a_cons (e_cls 4 (t.exn.hot p)) a_nil))) a_nil))))
    (b_cons (s_if (t_bool (w_or (t_cmp o_ne p_ne (e_count (e_var 1) (a_cons e_bl a_nil)) e_int) (w_or1 (t_not (t_val (e_callX (call_isX (t.exn.hot p) rfl (hotIn rfl)) (p_isX (t.exn.hot p)) t.b_isinstance (a_cons (e_var 0) (a_cons (e_bltn (T := "ValueError") (u := .type "ValueError") t.b_ValueError (by decide +kernel) rfl) a_nil)))))))) (b_one (s_ret (e_str (Str.mk #[119, 114, 111, 110, 103])))) b_nil)
    (b_cons (s_set 2 (e_lst (a_cons (e_str (Str.mk #[110, 111, 32, 98, 97, 99, 107])) (a_cons (e_str (Str.mk #[110, 111, 32, 98, 111, 111, 107])) (a_cons (e_str (Str.mk #[110, 111, 32, 112, 114, 111, 109, 105, 115, 101])) (a_cons (e_str (Str.mk #[110, 111, 32, 114, 97, 110, 107, 105, 110, 103])) (a_cons (e_str (Str.mk #[110, 111, 32, 114, 117, 108, 101])) (a_cons (e_str (Str.mk #[110, 111, 32, 116, 101, 120, 116])) (a_cons (e_str (Str.mk #[110, 111, 32, 116, 104, 105, 110, 103])) a_nil)))))))))
    (b_one (s_ret (e_ixU (e_var 2) (e_index (e_var 1) (a_cons e_bl a_nil))))))))))) he
theorem hot_ts {P : Program} {w : World} {g : Gd} {mg : Str → Option Value} {base : Heap} (t : Ft g mg base) : ∀ c ∈ ([0, 1, 2, 3, 4, 5, 6, 7] : List Nat), HotT P w g mg base "_law_class" c (wd c) :=
  hot_all (by decide +kernel) fun c wd hz he => hot__law_class t he
theorem sc_Poll___init__ : FnScope ["self"] ["self"] (defScope s_Poll___init__) := ⟨rfl, rfl, rfl, by decide +kernel, rfl, by decide +kernel, by decide +kernel⟩
theorem bi_Poll___init__ : BindsM "__init__" "Poll.__init__" s_Poll___init__ ["self"] := fun _ _ _ _ _ _ us hl => match us, hl with | [_], _ => rfl
theorem ok_Poll___init__ {P : Program} {w : World} {g : Gd} {mg : Str → Option Value} {base : Heap} (t : Ft g mg base) {k : Nat} : Okm P w g mg base (k + 1) "__init__" ["self"] 1 (D_Poll___init__) :=
  mk_fnM t.m___init__ t.d_Poll___init__ bi_Poll___init__ sc_Poll___init__ rfl rfl fun f cdv A outer s H E =>
    (b_cons (s_fld "now" t.cin.cls t.cin.now (e_var 0) (e_op o_repT p_repT (e_tup (a_cons e_int a_nil)) e_int))
    (b_cons (s_fld "past" t.cin.cls t.cin.past (e_var 0) (e_lst a_nil))
    (b_one (s_fld "later" t.cin.cls t.cin.later (e_var 0) (e_lst a_nil)))))
theorem sc_is_whole : FnScope ["thing", "low", "high"] ["thing", "low", "high"] (defScope s_is_whole) := ⟨rfl, rfl, rfl, by decide +kernel, rfl, by decide +kernel, by decide +kernel⟩
theorem bi_is_whole : BindsAll "is_whole" s_is_whole ["thing", "low", "high"] := fun _ _ _ _ _ _ us hl => match us, hl with | [_, _, _], _ => rfl
theorem ok_is_whole {P : Program} {w : World} {g : Gd} {mg : Str → Option Value} {base : Heap} (t : Ft g mg base) {k : Nat} : Okf P w g mg base (k + 1) "is_whole" ["thing", "low", "high"] 3 (D_is_whole) :=
  mk_fn t.d_is_whole t.f_is_whole bi_is_whole sc_is_whole rfl rfl fun f cdv A outer s H E =>
    (b_one (s_ret (e_and (e_callB c_isi p_isi t.b_isinstance (a_cons (e_var 0) (a_cons (e_bltn (T := "int") (u := .type "int") t.b_int (by decide +kernel) rfl) a_nil))) (e_and (e_not (e_callB c_isi p_isi t.b_isinstance (a_cons (e_var 0) (a_cons (e_bltn (T := "bool") (u := .type "bool") t.b_bool (by decide +kernel) rfl) a_nil)))) (e_one (e_chain o_le o_le p_le p_le (e_var 1) (e_var 0) (e_var 2)))))))
theorem sc_is_book : FnScope ["thing", "one"] ["thing"] (defScope s_is_book) := ⟨rfl, rfl, rfl, by decide +kernel, rfl, by decide +kernel, by decide +kernel⟩
theorem bi_is_book : BindsAll "is_book" s_is_book ["thing"] := fun _ _ _ _ _ _ us hl => match us, hl with | [_], _ => rfl
theorem ok_is_book {P : Program} {w : World} {g : Gd} {mg : Str → Option Value} {base : Heap} (t : Ft g mg base) {k : Nat} {F_is_whole : Fn} (h_is_whole : Okf P w g mg base k "is_whole" ["thing", "low", "high"] 3 F_is_whole) : Okf P w g mg base (k + 1) "is_book" ["thing"] 1 (D_is_book F_is_whole) :=
  mk_fn t.d_is_book t.f_is_book bi_is_book sc_is_book rfl rfl fun f cdv A outer s H E =>
    (b_one (s_ret (e_and (e_callB c_isi p_isi t.b_isinstance (a_cons (e_var 0) (a_cons (e_bltn (T := "tuple") (u := .type "tuple") t.b_tuple (by decide +kernel) rfl) a_nil))) (e_and (e_cmp o_eq p_eq (e_callB c_len p_len t.b_len (a_cons (e_var 0) a_nil)) e_int) (e_one (e_callB c_all p_all t.b_all (a_cons (e_comp [("one", 1)] (i_seq (b := false) (e_var 0)) (blkOk_by (by rfl)) (fun _ _ _ _ _ => (g_name 1)) (fun _ _ _ _ _ => ts_nil) (fun _ _ _ _ _ => (e_callF h_is_whole rfl (a_cons (e_var 1) (a_cons e_int (a_cons (e_con t.c_GREATEST) a_nil)))))) a_nil)))))))
theorem sc_look_book : FnScope ["book"] ["book"] (defScope s_look_book) := ⟨rfl, rfl, rfl, by decide +kernel, rfl, by decide +kernel, by decide +kernel⟩
theorem bi_look_book : BindsAll "look_book" s_look_book ["book"] := fun _ _ _ _ _ _ us hl => match us, hl with | [_], _ => rfl
theorem ok_look_book {P : Program} {w : World} {g : Gd} {mg : Str → Option Value} {base : Heap} (t : Ft g mg base) {k : Nat} {F_is_book : Fn} (h_is_book : Okf P w g mg base k "is_book" ["thing"] 1 F_is_book) : Okf P w g mg base (k + 1) "look_book" ["book"] 1 (D_look_book F_is_book) :=
  mk_fn t.d_look_book t.f_look_book bi_look_book sc_look_book rfl rfl fun f cdv A outer s H E =>
    (b_one (s_if (t_not (t_val (e_callF h_is_book rfl (a_cons (e_var 0) a_nil)))) (b_one (s_raise 1 t.exn)) b_nil))
theorem sc_look_number : FnScope ["number"] ["number"] (defScope s_look_number) := ⟨rfl, rfl, rfl, by decide +kernel, rfl, by decide +kernel, by decide +kernel⟩
theorem bi_look_number : BindsAll "look_number" s_look_number ["number"] := fun _ _ _ _ _ _ us hl => match us, hl with | [_], _ => rfl
theorem ok_look_number {P : Program} {w : World} {g : Gd} {mg : Str → Option Value} {base : Heap} (t : Ft g mg base) {k : Nat} {F_is_whole : Fn} (h_is_whole : Okf P w g mg base k "is_whole" ["thing", "low", "high"] 3 F_is_whole) : Okf P w g mg base (k + 1) "look_number" ["number"] 1 (D_look_number F_is_whole) :=
  mk_fn t.d_look_number t.f_look_number bi_look_number sc_look_number rfl rfl fun f cdv A outer s H E =>
    (b_one (s_if (t_not (t_val (e_callF h_is_whole rfl (a_cons (e_var 0) (a_cons e_int (a_cons e_int a_nil)))))) (b_one (s_raise 4 t.exn)) b_nil))
theorem sc_changed_to : FnScope ["book", "number", "other", "made"] ["book", "number", "other"] (defScope s_changed_to) := ⟨rfl, rfl, rfl, by decide +kernel, rfl, by decide +kernel, by decide +kernel⟩
theorem bi_changed_to : BindsAll "changed_to" s_changed_to ["book", "number", "other"] := fun _ _ _ _ _ _ us hl => match us, hl with | [_, _, _], _ => rfl
theorem ok_changed_to {P : Program} {w : World} {g : Gd} {mg : Str → Option Value} {base : Heap} (t : Ft g mg base) {k : Nat} : Okf P w g mg base (k + 1) "changed_to" ["book", "number", "other"] 3 (D_changed_to) :=
  mk_fn t.d_changed_to t.f_changed_to bi_changed_to sc_changed_to rfl rfl fun f cdv A outer s H E =>
    (b_cons (s_set 3 (e_callT c_list p_list t.b_list (a_cons (e_var 0) a_nil)))
    (b_cons (s_put (e_var 3) (e_var 1) (e_op o_sub p_sub (e_ixU (e_var 3) (e_var 1)) e_int))
    (b_cons (s_put (e_var 3) (e_var 2) (e_op o_add p_add (e_ixU (e_var 3) (e_var 2)) e_int))
    (b_one (s_ret (e_callT c_tuple p_tuple t.b_tuple (a_cons (e_var 3) a_nil)))))))
theorem sc_changed : FnScope ["book", "number", "other", "made"] ["book", "number", "other"] (defScope s_changed) := ⟨rfl, rfl, rfl, by decide +kernel, rfl, by decide +kernel, by decide +kernel⟩
theorem bi_changed : BindsAll "changed" s_changed ["book", "number", "other"] := fun _ _ _ _ _ _ us hl => match us, hl with | [_, _, _], _ => rfl
theorem ok_changed {P : Program} {w : World} {g : Gd} {mg : Str → Option Value} {base : Heap} (t : Ft g mg base) {k : Nat} {F_look_book : Fn} {F_look_number : Fn} {F_changed_to : Fn} (h_look_book : Okf P w g mg base k "look_book" ["book"] 1 F_look_book) (h_look_number : Okf P w g mg base k "look_number" ["number"] 1 F_look_number) (h_changed_to : Okf P w g mg base k "changed_to" ["book", "number", "other"] 3 F_changed_to) : Okf P w g mg base (k + 1) "changed" ["book", "number", "other"] 3 (D_changed F_look_book F_look_number F_changed_to) :=
  mk_fn t.d_changed t.f_changed bi_changed sc_changed rfl rfl fun f cdv A outer s H E =>
    (b_cons (s_expr (e_callF h_look_book rfl (a_cons (e_var 0) a_nil)))
    (b_cons (s_expr (e_callF h_look_number rfl (a_cons (e_var 1) a_nil)))
    (b_cons (s_expr (e_callF h_look_number rfl (a_cons (e_var 2) a_nil)))
    (b_cons (s_if (t_cmp o_eq p_eq (e_ixU (e_var 0) (e_var 1)) e_int) (b_one (s_raise 4 t.exn)) b_nil)
    (b_cons (s_set 3 (e_callF h_changed_to rfl (a_cons (e_var 0) (a_cons (e_var 1) (a_cons (e_var 2) a_nil)))))
    (b_cons (s_expr (e_callF h_look_book rfl (a_cons (e_var 3) a_nil)))
    (b_one (s_ret (e_var 3)))))))))
theorem sc_Poll_go : FnScope ["self", "step", "book"] ["self", "step", "book"] (defScope s_Poll_go) := ⟨rfl, rfl, rfl, by decide +kernel, rfl, by decide +kernel, by decide +kernel⟩
theorem bi_Poll_go : BindsM "go" "Poll.go" s_Poll_go ["self", "step", "book"] := fun _ _ _ _ _ _ us hl => match us, hl with | [_, _, _], _ => rfl
theorem ok_Poll_go {P : Program} {w : World} {g : Gd} {mg : Str → Option Value} {base : Heap} (t : Ft g mg base) {k : Nat} : Okm P w g mg base (k + 1) "go" ["self", "step", "book"] 3 (D_Poll_go) :=
  mk_fnM t.m_go t.d_Poll_go bi_Poll_go sc_Poll_go rfl rfl fun f cdv A outer s H E =>
    (b_cons (s_expr (e_append (e_fld "past" t.cin.cls t.cin.past (e_var 0)) (a_cons (e_tup (a_cons (e_var 1) (a_cons (e_fld "now" t.cin.cls t.cin.now (e_var 0)) a_nil))) a_nil)))
    (b_cons (s_fld "later" t.cin.cls t.cin.later (e_var 0) (e_lst a_nil))
    (b_one (s_fld "now" t.cin.cls t.cin.now (e_var 0) (e_var 2)))))
theorem sc_Poll_change : FnScope ["self", "number", "other", "made"] ["self", "number", "other"] (defScope s_Poll_change) := ⟨rfl, rfl, rfl, by decide +kernel, rfl, by decide +kernel, by decide +kernel⟩
theorem bi_Poll_change : BindsM "change" "Poll.change" s_Poll_change ["self", "number", "other"] := fun _ _ _ _ _ _ us hl => match us, hl with | [_, _, _], _ => rfl
theorem ok_Poll_change {P : Program} {w : World} {g : Gd} {mg : Str → Option Value} {base : Heap} (t : Ft g mg base) {k : Nat} {F_changed : Fn} {F_Poll_go : Fn} (h_changed : Okf P w g mg base k "changed" ["book", "number", "other"] 3 F_changed) (h_Poll_go : Okm P w g mg base k "go" ["self", "step", "book"] 3 F_Poll_go) : Okm P w g mg base (k + 1) "change" ["self", "number", "other"] 3 (D_Poll_change F_changed F_Poll_go) :=
  mk_fnM t.m_change t.d_Poll_change bi_Poll_change sc_Poll_change rfl rfl fun f cdv A outer s H E =>
    (b_cons (s_set 3 (e_callF h_changed rfl (a_cons (e_fld "now" t.cin.cls t.cin.now (e_var 0)) (a_cons (e_var 1) (a_cons (e_var 2) a_nil)))))
    (b_cons (s_expr (e_methP t.cin.cls h_Poll_go rfl (e_var 0) (a_cons (e_tup (a_cons (e_str (Str.mk #[99, 104, 97, 110, 103, 101])) (a_cons (e_var 1) (a_cons (e_var 2) a_nil)))) (a_cons (e_var 3) a_nil))))
    (b_one (s_ret (e_ixU (e_var 3) (e_var 2))))))
theorem sc_Poll_add : FnScope ["self", "number", "made"] ["self", "number"] (defScope s_Poll_add) := ⟨rfl, rfl, rfl, by decide +kernel, rfl, by decide +kernel, by decide +kernel⟩
theorem bi_Poll_add : BindsM "add" "Poll.add" s_Poll_add ["self", "number"] := fun _ _ _ _ _ _ us hl => match us, hl with | [_, _], _ => rfl
theorem ok_Poll_add {P : Program} {w : World} {g : Gd} {mg : Str → Option Value} {base : Heap} (t : Ft g mg base) {k : Nat} {F_look_number : Fn} {F_Poll_go : Fn} (h_look_number : Okf P w g mg base k "look_number" ["number"] 1 F_look_number) (h_Poll_go : Okm P w g mg base k "go" ["self", "step", "book"] 3 F_Poll_go) : Okm P w g mg base (k + 1) "add" ["self", "number"] 2 (D_Poll_add F_look_number F_Poll_go) :=
  mk_fnM t.m_add t.d_Poll_add bi_Poll_add sc_Poll_add rfl rfl fun f cdv A outer s H E =>
    (b_cons (s_expr (e_callF h_look_number rfl (a_cons (e_var 1) a_nil)))
    (b_cons (s_if (t_cmp o_eq p_eq (e_ixU (e_fld "now" t.cin.cls t.cin.now (e_var 0)) (e_var 1)) (e_con t.c_GREATEST)) (b_one (s_raise 1 t.exn)) b_nil)
    (b_cons (s_set 2 (e_op o_add p_add (e_op o_add p_add (e_slice (e_fld "now" t.cin.cls t.cin.now (e_var 0)) o_none (o_some (e_var 1))) (e_tup (a_cons (e_op o_add p_add (e_ixU (e_fld "now" t.cin.cls t.cin.now (e_var 0)) (e_var 1)) e_int) a_nil))) (e_slice (e_fld "now" t.cin.cls t.cin.now (e_var 0)) (o_some (e_op o_add p_add (e_var 1) e_int)) o_none)))
    (b_cons (s_expr (e_methP t.cin.cls h_Poll_go rfl (e_var 0) (a_cons (e_tup (a_cons (e_str (Str.mk #[97, 100, 100])) (a_cons (e_var 1) a_nil))) (a_cons (e_var 2) a_nil))))
    (b_one (s_ret (e_ixU (e_var 2) (e_var 1))))))))
theorem sc_Poll_drop : FnScope ["self", "number", "made"] ["self", "number"] (defScope s_Poll_drop) := ⟨rfl, rfl, rfl, by decide +kernel, rfl, by decide +kernel, by decide +kernel⟩
theorem bi_Poll_drop : BindsM "drop" "Poll.drop" s_Poll_drop ["self", "number"] := fun _ _ _ _ _ _ us hl => match us, hl with | [_, _], _ => rfl
theorem ok_Poll_drop {P : Program} {w : World} {g : Gd} {mg : Str → Option Value} {base : Heap} (t : Ft g mg base) {k : Nat} {F_changed : Fn} {F_Poll_go : Fn} (h_changed : Okf P w g mg base k "changed" ["book", "number", "other"] 3 F_changed) (h_Poll_go : Okm P w g mg base k "go" ["self", "step", "book"] 3 F_Poll_go) : Okm P w g mg base (k + 1) "drop" ["self", "number"] 2 (D_Poll_drop F_changed F_Poll_go) :=
  mk_fnM t.m_drop t.d_Poll_drop bi_Poll_drop sc_Poll_drop rfl rfl fun f cdv A outer s H E =>
    (b_cons (s_set 2 (e_callF h_changed rfl (a_cons (e_fld "now" t.cin.cls t.cin.now (e_var 0)) (a_cons (e_var 1) (a_cons (e_var 1) a_nil)))))
    (b_cons (s_set 2 (e_op o_add p_add (e_op o_add p_add (e_slice (e_var 2) o_none (o_some (e_var 1))) (e_tup (a_cons (e_op o_sub p_sub (e_ixU (e_var 2) (e_var 1)) e_int) a_nil))) (e_slice (e_var 2) (o_some (e_op o_add p_add (e_var 1) e_int)) o_none)))
    (b_cons (s_expr (e_methP t.cin.cls h_Poll_go rfl (e_var 0) (a_cons (e_tup (a_cons (e_str (Str.mk #[100, 114, 111, 112])) (a_cons (e_var 1) a_nil))) (a_cons (e_var 2) a_nil))))
    (b_one (s_ret (e_ixU (e_var 2) (e_var 1)))))))
theorem sc__law_did : FnScope ["poll", "deed"] ["poll", "deed"] (defScope s__law_did) := ⟨rfl, rfl, rfl, by decide +kernel, rfl, by decide +kernel, by decide +kernel⟩
theorem bi__law_did : BindsAll "_law_did" s__law_did ["poll", "deed"] := fun _ _ _ _ _ _ us hl => match us, hl with | [_, _], _ => rfl
theorem ok__law_did {P : Program} {w : World} {g : Gd} {mg : Str → Option Value} {base : Heap} (t : Ft g mg base) {k : Nat} {F_Poll_change : Fn} {F_Poll_add : Fn} {F_Poll_drop : Fn} (h_Poll_change : Okm P w g mg base k "change" ["self", "number", "other"] 3 F_Poll_change) (h_Poll_add : Okm P w g mg base k "add" ["self", "number"] 2 F_Poll_add) (h_Poll_drop : Okm P w g mg base k "drop" ["self", "number"] 2 F_Poll_drop) : Okf P w g mg base (k + 3) "_law_did" ["poll", "deed"] 2 (D__law_did F_Poll_change F_Poll_add F_Poll_drop) :=
  mk_fnL t.d__law_did t.f__law_did bi__law_did sc__law_did rfl rfl fun f cdv A outer s H E hcd =>
    (b_cons (s_if (t_cmp o_eq p_eq (e_ixU (e_var 1) e_int) (e_str (Str.mk #[99, 104, 97, 110, 103, 101]))) (b_one (s_ret (e_told (i := 1) t.d__law_told t.f__law_told bi__law_told sc__law_told is_told (hot_ts t) t.exn t.tb__law_did hcd t.tm__law_did t.tu__law_did rfl (fun _ _ _ _ _ _ _ => (e_methP t.cin.cls h_Poll_change rfl (e_var 0) (a_cons (e_ixU (e_var 1) e_int) (a_cons (e_ixU (e_var 1) e_int) a_nil))))))) b_nil)
    (b_one (s_ret (e_told (i := 1) t.d__law_told t.f__law_told bi__law_told sc__law_told is_told (hot_ts t) t.exn t.tb__law_did hcd t.tm__law_did t.tu__law_did rfl (fun _ _ _ _ _ _ _ => (e_if (t_cmp o_eq p_eq (e_ixU (e_var 1) e_int) (e_str (Str.mk #[97, 100, 100]))) (e_methP t.cin.cls h_Poll_add rfl (e_var 0) (a_cons (e_ixU (e_var 1) e_int) a_nil)) (e_methP t.cin.cls h_Poll_drop rfl (e_var 0) (a_cons (e_ixU (e_var 1) e_int) a_nil))))))))
theorem sc__law_cell : FnScope ["script", "k"] ["script", "k"] (defScope s__law_cell) := ⟨rfl, rfl, rfl, by decide +kernel, rfl, by decide +kernel, by decide +kernel⟩
theorem bi__law_cell : BindsAll "_law_cell" s__law_cell ["script", "k"] := fun _ _ _ _ _ _ us hl => match us, hl with | [_, _], _ => rfl
theorem ok__law_cell {P : Program} {w : World} {g : Gd} {mg : Str → Option Value} {base : Heap} (t : Ft g mg base) {k : Nat} : Okf P w g mg base (k + 1) "_law_cell" ["script", "k"] 2 (D__law_cell g.ns) :=
  mk_fn t.d__law_cell t.f__law_cell bi__law_cell sc__law_cell rfl rfl fun f cdv A outer s H E =>
    (b_cons (s_if (t_cmp o_lt p_lt (e_var 1) (e_callB c_len p_lenS t.b_len (a_cons (e_var 0) a_nil))) (b_one (s_ret (e_ixS (e_var 0) (e_var 1)))) b_nil)
    (b_cons (s_if (t_cmp o_eq p_eqS (e_var 0) (e_lst a_nil)) (b_one (s_ret e_int)) b_nil)
    (b_one (s_ret (e_op o_add p_add (e_op o_mul p_mul (e_ixS (e_var 0) (e_op o_mod p_mod (e_var 1) (e_callB c_len p_lenS t.b_len (a_cons (e_var 0) a_nil)))) e_int) (e_var 1))))))
theorem sc__law_pick : FnScope ["script", "k", "many", "drawn"] ["script", "k", "many"] (defScope s__law_pick) := ⟨rfl, rfl, rfl, by decide +kernel, rfl, by decide +kernel, by decide +kernel⟩
theorem bi__law_pick : BindsAll "_law_pick" s__law_pick ["script", "k", "many"] := fun _ _ _ _ _ _ us hl => match us, hl with | [_, _, _], _ => rfl
theorem ok__law_pick {P : Program} {w : World} {g : Gd} {mg : Str → Option Value} {base : Heap} (t : Ft g mg base) {k : Nat} {F__law_cell : Fn} (h__law_cell : Okf P w g mg base k "_law_cell" ["script", "k"] 2 F__law_cell) : Okf P w g mg base (k + 1) "_law_pick" ["script", "k", "many"] 3 (D__law_pick F__law_cell) :=
  mk_fn t.d__law_pick t.f__law_pick bi__law_pick sc__law_pick rfl rfl fun f cdv A outer s H E =>
    (b_cons (s_set 3 (e_op o_mod p_mod (e_op o_mul p_mul (e_op o_add p_add (e_callF h__law_cell rfl (a_cons (e_var 0) (a_cons (e_var 1) a_nil))) (e_op o_mul p_mul e_int (e_op o_add p_add (e_var 1) e_int))) e_int) e_int))
    (b_one (s_ret (e_op o_mod p_mod (e_op o_mod p_mod (e_op o_add p_add (e_op o_mul p_mul (e_var 3) (e_var 3)) (e_op o_fdivW p_fdivW (e_var 3) e_int)) e_int) (e_var 2)))))
theorem sc__law_deed : FnScope ["script", "at", "book", "number", "other", "held", "k"] ["script", "at", "book"] (defScope s__law_deed) := ⟨rfl, rfl, rfl, by decide +kernel, rfl, by decide +kernel, by decide +kernel⟩
theorem bi__law_deed : BindsAll "_law_deed" s__law_deed ["script", "at", "book"] := fun _ _ _ _ _ _ us hl => match us, hl with | [_, _, _], _ => rfl
theorem ok__law_deed {P : Program} {w : World} {g : Gd} {mg : Str → Option Value} {base : Heap} (t : Ft g mg base) {k : Nat} {F__law_pick : Fn} (h__law_pick : Okf P w g mg base k "_law_pick" ["script", "k", "many"] 3 F__law_pick) : Okf P w g mg base (k + 1) "_law_deed" ["script", "at", "book"] 3 (D__law_deed F__law_pick) :=
  mk_fn t.d__law_deed t.f__law_deed bi__law_deed sc__law_deed rfl rfl fun f cdv A outer s H E =>
    (b_cons (s_par 3 4 (a_cons (e_callF h__law_pick rfl (a_cons (e_var 0) (a_cons (e_var 1) (a_cons e_int a_nil)))) (a_cons (e_callF h__law_pick rfl (a_cons (e_var 0) (a_cons (e_op o_add p_add (e_var 1) e_int) (a_cons e_int a_nil)))) a_nil)))
    (b_cons (s_setLc 5 [("k", 6)] (i_range1 (b := false) t.b_range (a_cons e_int a_nil)) (blkOk_by (by rfl)) (fun _ _ _ _ _ => (g_name 6)) (fun _ _ _ _ _ => (ts_one (t_cmp o_gt p_gt (e_ixU (e_var 2) (e_var 6)) e_int))) (fun _ _ _ _ _ => (e_var 6)))
    (b_cons (s_if (t_bool (w_and (t_cmp o_ne p_ne (e_var 5) (e_lst a_nil)) (w_and1 (t_cmp o_gt p_gt (e_callF h__law_pick rfl (a_cons (e_var 0) (a_cons (e_op o_add p_add (e_var 1) e_int) (a_cons e_int a_nil)))) e_int)))) (b_one (s_set 3 (e_ixU (e_var 5) (e_callF h__law_pick rfl (a_cons (e_var 0) (a_cons (e_op o_add p_add (e_var 1) e_int) (a_cons (e_callB c_len p_len t.b_len (a_cons (e_var 5) a_nil)) a_nil))))))) b_nil)
    (b_one (s_ret (e_ixU (e_lst (a_cons (e_tup (a_cons (e_str (Str.mk #[97, 100, 100])) (a_cons (e_var 4) a_nil))) (a_cons (e_tup (a_cons (e_str (Str.mk #[97, 100, 100])) (a_cons (e_var 3) a_nil))) (a_cons (e_tup (a_cons (e_str (Str.mk #[100, 114, 111, 112])) (a_cons (e_var 3) a_nil))) (a_cons (e_tup (a_cons (e_str (Str.mk #[99, 104, 97, 110, 103, 101])) (a_cons (e_var 3) (a_cons (e_var 4) a_nil)))) a_nil))))) (e_callF h__law_pick rfl (a_cons (e_var 0) (a_cons (e_op o_add p_add (e_var 1) e_int) (a_cons e_int a_nil))))))))))
theorem sc_Poll_book : FnScope ["self"] ["self"] (defScope s_Poll_book) := ⟨rfl, rfl, rfl, by decide +kernel, rfl, by decide +kernel, by decide +kernel⟩
theorem bi_Poll_book : BindsM "book" "Poll.book" s_Poll_book ["self"] := fun _ _ _ _ _ _ us hl => match us, hl with | [_], _ => rfl
theorem ok_Poll_book {P : Program} {w : World} {g : Gd} {mg : Str → Option Value} {base : Heap} (t : Ft g mg base) {k : Nat} : Okm P w g mg base (k + 1) "book" ["self"] 1 (D_Poll_book) :=
  mk_fnM t.m_book t.d_Poll_book bi_Poll_book sc_Poll_book rfl rfl fun f cdv A outer s H E =>
    (b_one (s_ret (e_fld "now" t.cin.cls t.cin.now (e_var 0))))
theorem sc_Poll_steps : FnScope ["self", "step", "was"] ["self"] (defScope s_Poll_steps) := ⟨rfl, rfl, rfl, by decide +kernel, rfl, by decide +kernel, by decide +kernel⟩
theorem bi_Poll_steps : BindsM "steps" "Poll.steps" s_Poll_steps ["self"] := fun _ _ _ _ _ _ us hl => match us, hl with | [_], _ => rfl
theorem ok_Poll_steps {P : Program} {w : World} {g : Gd} {mg : Str → Option Value} {base : Heap} (t : Ft g mg base) {k : Nat} : Okm P w g mg base (k + 1) "steps" ["self"] 1 (D_Poll_steps) :=
  mk_fnM t.m_steps t.d_Poll_steps bi_Poll_steps sc_Poll_steps rfl rfl fun f cdv A outer s H E =>
    (b_one (s_ret (e_comp [("step", 1), ("was", 2)] (i_seq (b := false) (e_fld "past" t.cin.cls t.cin.past (e_var 0))) (blkOk_by (by rfl)) (fun _ _ _ _ _ => (g_tup (sn_cons 1 (sn_cons 2 .nil)))) (fun _ _ _ _ _ => ts_nil) (fun _ _ _ _ _ => (e_var 1)))))
theorem sc_wish_text : FnScope ["wish", "thing"] ["wish"] (defScope s_wish_text) := ⟨rfl, rfl, rfl, by decide +kernel, rfl, by decide +kernel, by decide +kernel⟩
theorem bi_wish_text : BindsAll "wish_text" s_wish_text ["wish"] := fun _ _ _ _ _ _ us hl => match us, hl with | [_], _ => rfl
theorem ok_wish_text {P : Program} {w : World} {g : Gd} {mg : Str → Option Value} {base : Heap} (t : Ft g mg base) {k : Nat} : Okf P w g mg base (k + 1) "wish_text" ["wish"] 1 (D_wish_text) :=
  mk_fn t.d_wish_text t.f_wish_text bi_wish_text sc_wish_text rfl rfl fun f cdv A outer s H E =>
    (b_one (s_ret (e_join (e_str (Str.mk #[])) (a_cons (e_comp [("thing", 1)] (i_seq (b := false) (e_var 0)) (blkOk_by (by rfl)) (fun _ _ _ _ _ => (g_name 1)) (fun _ _ _ _ _ => ts_nil) (fun _ _ _ _ _ => (e_ixU (e_con t.c_NAMES) (e_var 1)))) a_nil))))
theorem sc_step_text : FnScope ["step", "words", "number"] ["step"] (defScope s_step_text) := ⟨rfl, rfl, rfl, by decide +kernel, rfl, by decide +kernel, by decide +kernel⟩
theorem bi_step_text : BindsAll "step_text" s_step_text ["step"] := fun _ _ _ _ _ _ us hl => match us, hl with | [_], _ => rfl
theorem ok_step_text {P : Program} {w : World} {g : Gd} {mg : Str → Option Value} {base : Heap} (t : Ft g mg base) {k : Nat} {F_wish_text : Fn} (h_wish_text : Okf P w g mg base k "wish_text" ["wish"] 1 F_wish_text) : Okf P w g mg base (k + 1) "step_text" ["step"] 1 (D_step_text F_wish_text) :=
  mk_fn t.d_step_text t.f_step_text bi_step_text sc_step_text rfl rfl fun f cdv A outer s H E =>
    (b_cons (s_setLc 1 [("number", 2)] (i_seq (b := false) (e_slice (e_var 0) (o_some e_int) o_none)) (blkOk_by (by rfl)) (fun _ _ _ _ _ => (g_name 2)) (fun _ _ _ _ _ => ts_nil) (fun _ _ _ _ _ => (e_callF h_wish_text rfl (a_cons (e_ixU (e_con t.c_WISHES) (e_var 2)) a_nil))))
    (b_one (s_ret (e_join (e_str (Str.mk #[32])) (a_cons (e_op o_add p_add (e_if (t_cmp o_ne p_ne (e_ixU (e_var 0) e_int) (e_str (Str.mk #[99, 104, 97, 110, 103, 101]))) (e_lst (a_cons (e_ixU (e_disp (sp_cons (e_str (Str.mk #[97, 100, 100])) (e_str (Str.mk #[43])) (sp_cons (e_str (Str.mk #[100, 114, 111, 112])) (e_str (Str.mk #[45])) sp_nil))) (e_ixU (e_var 0) e_int)) a_nil)) (e_lst a_nil)) (e_var 1)) a_nil)))))
theorem sc_poll_text : FnScope ["poll", "step"] ["poll"] (defScope s_poll_text) := ⟨rfl, rfl, rfl, by decide +kernel, rfl, by decide +kernel, by decide +kernel⟩
theorem bi_poll_text : BindsAll "poll_text" s_poll_text ["poll"] := fun _ _ _ _ _ _ us hl => match us, hl with | [_], _ => rfl
theorem ok_poll_text {P : Program} {w : World} {g : Gd} {mg : Str → Option Value} {base : Heap} (t : Ft g mg base) {k : Nat} {F_Poll_steps : Fn} {F_step_text : Fn} (h_Poll_steps : Okm P w g mg base k "steps" ["self"] 1 F_Poll_steps) (h_step_text : Okf P w g mg base k "step_text" ["step"] 1 F_step_text) : Okf P w g mg base (k + 1) "poll_text" ["poll"] 1 (D_poll_text F_Poll_steps F_step_text) :=
  mk_fn t.d_poll_text t.f_poll_text bi_poll_text sc_poll_text rfl rfl fun f cdv A outer s H E =>
    (b_one (s_ret (e_join (e_str (Str.mk #[])) (a_cons (e_comp [("step", 1)] (i_seq (b := false) (e_methP0 t.cin.cls h_Poll_steps rfl (e_var 0))) (blkOk_by (by rfl)) (fun _ _ _ _ _ => (g_name 1)) (fun _ _ _ _ _ => ts_nil) (fun _ _ _ _ _ => (e_op o_add p_add (e_callF h_step_text rfl (a_cons (e_var 1) a_nil)) (e_str (Str.mk #[10]))))) a_nil))))
theorem sc__law_spoilt : FnScope ["text", "cell", "signs", "at", "sign", "on", "way"] ["text", "cell", "signs"] (defScope s__law_spoilt) := ⟨rfl, rfl, rfl, by decide +kernel, rfl, by decide +kernel, by decide +kernel⟩
theorem bi__law_spoilt : BindsAll "_law_spoilt" s__law_spoilt ["text", "cell", "signs"] := fun _ _ _ _ _ _ us hl => match us, hl with | [_, _, _], _ => rfl
theorem ok__law_spoilt {P : Program} {w : World} {g : Gd} {mg : Str → Option Value} {base : Heap} (t : Ft g mg base) {k : Nat} : Okf P w g mg base (k + 1) "_law_spoilt" ["text", "cell", "signs"] 3 (D__law_spoilt) :=
  mk_fn t.d__law_spoilt t.f__law_spoilt bi__law_spoilt sc__law_spoilt rfl rfl fun f cdv A outer s H E =>
    (b_cons (s_set 3 (e_op o_mod p_mod (e_var 1) (e_op o_add p_add (e_callB c_len p_len t.b_len (a_cons (e_var 0) a_nil)) e_int)))
    (b_cons (s_set 4 (e_ixU (e_var 2) (e_op o_mod p_mod (e_op o_fdivW p_fdivW (e_var 1) e_int) (e_callB c_len p_len t.b_len (a_cons (e_var 2) a_nil)))))
    (b_cons (s_set 5 (e_op o_add p_add (e_op o_add p_add (e_var 3) e_int) (e_op o_mod p_mod (e_op o_fdivW p_fdivW (e_var 1) e_int) e_int)))
    (b_cons (s_set 6 (e_op o_mod p_mod (e_op o_fdivW p_fdivW (e_var 1) e_int) e_int))
    (b_cons (s_if (t_cmp o_lt p_lt (e_var 6) e_int) (b_one (s_ret (e_op o_add p_add (e_op o_add p_add (e_slice (e_var 0) o_none (o_some (e_var 3))) (e_var 4)) (e_slice (e_var 0) (o_some (e_var 3)) o_none)))) b_nil)
    (b_cons (s_if (t_cmp o_eq p_eq (e_var 6) e_int) (b_one (s_ret (e_op o_add p_add (e_slice (e_var 0) o_none (o_some (e_var 3))) (e_slice (e_var 0) (o_some (e_op o_add p_add (e_var 3) e_int)) o_none)))) b_nil)
    (b_cons (s_if (t_cmp o_lt p_lt (e_var 6) e_int) (b_one (s_ret (e_op o_add p_add (e_op o_add p_add (e_slice (e_var 0) o_none (o_some (e_var 3))) (e_var 4)) (e_slice (e_var 0) (o_some (e_op o_add p_add (e_var 3) e_int)) o_none)))) b_nil)
    (b_cons (s_if (t_cmp o_eq p_eq (e_var 6) e_int) (b_one (s_ret (e_op o_add p_add (e_slice (e_var 0) o_none (o_some (e_var 3))) (e_slice (e_var 0) (o_some (e_var 5)) o_none)))) b_nil)
    (b_cons (s_if (t_cmp o_eq p_eq (e_var 6) e_int) (b_one (s_ret (e_op o_add p_add (e_slice (e_var 0) o_none (o_some (e_var 5))) (e_slice (e_var 0) (o_some (e_var 3)) o_none)))) b_nil)
    (b_one (s_ret (e_ixU (e_lst (a_cons (e_op o_add p_add (e_var 0) (e_str (Str.mk #[32]))) (a_cons (e_op o_add p_add (e_str (Str.mk #[32])) (e_var 0)) (a_cons (e_op o_add p_add (e_slice (e_var 0) (o_some (e_var 3)) o_none) (e_slice (e_var 0) o_none (o_some (e_var 3)))) (a_cons (e_str (Str.mk #[])) (a_cons (e_op o_add p_add (e_var 0) (e_var 0)) a_nil)))))) (e_op o_mod p_mod (e_var 1) e_int)))))))))))))
theorem sc_do_line : FnScope ["poll", "words", "numbers"] ["poll", "words", "numbers"] (defScope s_do_line) := ⟨rfl, rfl, rfl, by decide +kernel, rfl, by decide +kernel, by decide +kernel⟩
theorem bi_do_line : BindsAll "do_line" s_do_line ["poll", "words", "numbers"] := fun _ _ _ _ _ _ us hl => match us, hl with | [_, _, _], _ => rfl
theorem ok_do_line {P : Program} {w : World} {g : Gd} {mg : Str → Option Value} {base : Heap} (t : Ft g mg base) {k : Nat} {F_Poll_add : Fn} {F_Poll_drop : Fn} {F_Poll_change : Fn} (h_Poll_add : Okm P w g mg base k "add" ["self", "number"] 2 F_Poll_add) (h_Poll_drop : Okm P w g mg base k "drop" ["self", "number"] 2 F_Poll_drop) (h_Poll_change : Okm P w g mg base k "change" ["self", "number", "other"] 3 F_Poll_change) : Okf P w g mg base (k + 1) "do_line" ["poll", "words", "numbers"] 3 (D_do_line F_Poll_add F_Poll_drop F_Poll_change) :=
  mk_fn t.d_do_line t.f_do_line bi_do_line sc_do_line rfl rfl fun f cdv A outer s H E =>
    (b_cons (s_if (t_bool (w_or (t_cmp o_ne p_ne (e_callB c_len p_len t.b_len (a_cons (e_var 1) a_nil)) e_int) (w_or1 (t_cmp o_notinDk p_notinDk (e_ixU (e_var 1) e_int) (e_var 2))))) (b_one (s_raise 6 t.exn)) b_nil)
    (b_one (s_if (t_cmp o_eq p_eq (e_ixU (e_var 1) e_int) (e_str (Str.mk #[43]))) (b_one (s_expr (e_methP t.cin.cls h_Poll_add rfl (e_var 0) (a_cons (e_ixU (e_var 2) (e_ixU (e_var 1) e_int)) a_nil)))) (b_one (s_if (t_cmp o_eq p_eq (e_ixU (e_var 1) e_int) (e_str (Str.mk #[45]))) (b_one (s_expr (e_methP t.cin.cls h_Poll_drop rfl (e_var 0) (a_cons (e_ixU (e_var 2) (e_ixU (e_var 1) e_int)) a_nil)))) (b_one (s_if (t_cmp o_inDk p_inDk (e_ixU (e_var 1) e_int) (e_var 2)) (b_one (s_expr (e_methP t.cin.cls h_Poll_change rfl (e_var 0) (a_cons (e_ixU (e_var 2) (e_ixU (e_var 1) e_int)) (a_cons (e_ixU (e_var 2) (e_ixU (e_var 1) e_int)) a_nil))))) (b_one (s_raise 6 t.exn)))))))))
theorem sc_read_poll : FnScope ["text", "numbers", "number", "wish", "made", "line"] ["text"] (defScope s_read_poll) := ⟨rfl, rfl, rfl, by decide +kernel, rfl, by decide +kernel, by decide +kernel⟩
theorem bi_read_poll : BindsAll "read_poll" s_read_poll ["text"] := fun _ _ _ _ _ _ us hl => match us, hl with | [_], _ => rfl
theorem ok_read_poll {P : Program} {w : World} {g : Gd} {mg : Str → Option Value} {base : Heap} (t : Ft g mg base) {k : Nat} {F_wish_text : Fn} {F_Poll___init__ : Fn} {F_do_line : Fn} (h_wish_text : Okf P w g mg base k "wish_text" ["wish"] 1 F_wish_text) (h_Poll___init__ : Okm P w g mg base k "__init__" ["self"] 1 F_Poll___init__) (h_do_line : Okf P w g mg base k "do_line" ["poll", "words", "numbers"] 3 F_do_line) : Okf P w g mg base (k + 2) "read_poll" ["text"] 1 (D_read_poll_t F_wish_text F_Poll___init__ F_do_line) :=
  mk_fn t.d_read_poll t.f_read_poll bi_read_poll sc_read_poll rfl rfl fun f cdv A outer s H E =>
    (b_cons (s_if (t_bool (w_or (t_not (t_val (e_callB c_isi p_isi t.b_isinstance (a_cons (e_var 0) (a_cons (e_bltn (T := "str") (u := .type "str") t.b_str (by decide +kernel) rfl) a_nil))))) (w_or1 (t_cmp o_ne p_ne (e_ixU (e_split (e_var 0) (a_cons (e_str (Str.mk #[10])) a_nil)) (e_neg e_int)) (e_str (Str.mk #[])))))) (b_one (s_raise 6 t.exn)) b_nil)
    (b_cons (s_set 1 (e_callT c_dict p_dict t.b_dict (a_cons (e_comp [("number", 2), ("wish", 3)] (i_enum t.b_enumerate (a_cons (e_con t.c_WISHES) a_nil)) (blkOk_by (by rfl)) (fun _ _ _ _ _ => (g_tup (sn_cons 2 (sn_cons 3 .nil)))) (fun _ _ _ _ _ => ts_nil) (fun _ _ _ _ _ => (e_tup (a_cons (e_callF (h_wish_text.mono (Nat.le_add_right _ 1)) rfl (a_cons (e_var 3) a_nil)) (a_cons (e_var 2) a_nil))))) a_nil)))
    (b_cons (s_set 4 (e_make t.cin h_Poll___init__ rfl))
    (b_cons (s_forC [1, 4] (i_seq (b := false) (e_slice (e_split (e_var 0) (a_cons (e_str (Str.mk #[10])) a_nil)) o_none (o_some (e_neg e_int)))) (g_name 5) (b_one (s_tryX 0 6 t.exn (fun _ _ _ => (b_one (s_expr (e_callF (h_do_line.mono (Nat.le_add_right _ 1)) rfl (a_cons (e_var 4) (a_cons (e_split (e_var 5) (a_cons (e_str (Str.mk #[32])) a_nil)) (a_cons (e_var 1) a_nil))))))))))
    (b_one (s_ret (e_var 4)))))))
theorem sc__law_wishes : FnScope [] [] (defScope s__law_wishes) := ⟨rfl, rfl, rfl, by decide +kernel, rfl, by decide +kernel, by decide +kernel⟩
theorem bi__law_wishes : BindsAll "_law_wishes" s__law_wishes [] := fun _ _ _ _ _ _ us hl => match us, hl with | [], _ => rfl
theorem ok__law_wishes {P : Program} {w : World} {g : Gd} {mg : Str → Option Value} {base : Heap} (t : Ft g mg base) {k : Nat} : Okf P w g mg base (k + 1) "_law_wishes" [] 0 (D__law_wishes) :=
  mk_fn t.d__law_wishes t.f__law_wishes bi__law_wishes sc__law_wishes rfl rfl fun f cdv A outer s H E =>
    (b_one (s_ret (e_lst (a_cons (e_tup (a_cons e_int (a_cons e_int (a_cons e_int a_nil)))) (a_cons (e_tup (a_cons e_int (a_cons e_int (a_cons e_int a_nil)))) (a_cons (e_tup (a_cons e_int (a_cons e_int (a_cons e_int a_nil)))) (a_cons (e_tup (a_cons e_int (a_cons e_int (a_cons e_int a_nil)))) (a_cons (e_tup (a_cons e_int (a_cons e_int (a_cons e_int a_nil)))) (a_cons (e_tup (a_cons e_int (a_cons e_int (a_cons e_int a_nil)))) a_nil)))))))))
theorem sc__law_can_be : FnScope ["text", "some", "thing", "wish", "book", "lines", "line", "head", "number", "was"] ["text"] (defScope s__law_can_be) := ⟨rfl, rfl, rfl, by decide +kernel, rfl, by decide +kernel, by decide +kernel⟩
theorem bi__law_can_be : BindsAll "_law_can_be" s__law_can_be ["text"] := fun _ _ _ _ _ _ us hl => match us, hl with | [_], _ => rfl
theorem ok__law_can_be {P : Program} {w : World} {g : Gd} {mg : Str → Option Value} {base : Heap} (t : Ft g mg base) {k : Nat} {F__law_wishes : Fn} (h__law_wishes : Okf P w g mg base k "_law_wishes" [] 0 F__law_wishes) : Okf P w g mg base (k + 1) "_law_can_be" ["text"] 1 (D__law_can_be F__law_wishes) :=
  mk_fn t.d__law_can_be t.f__law_can_be bi__law_can_be sc__law_can_be rfl rfl fun f cdv A outer s H E =>
    (b_cons (s_setLc 1 [("wish", 3)] (i_seq (b := false) (e_callF0 h__law_wishes rfl)) (blkOk_by (by rfl)) (fun _ _ _ _ _ => (g_name 3)) (fun _ _ _ _ _ => ts_nil) (fun _ _ _ _ _ => (e_join (e_str (Str.mk #[])) (a_cons (e_comp [("thing", 2)] (i_seq (b := false) (e_var 3)) (blkOk_by (by rfl)) (fun _ _ _ _ _ => (g_name 2)) (fun _ _ _ _ _ => ts_nil) (fun _ _ _ _ _ => (e_ixU (e_str (Str.mk #[97, 98, 99])) (e_var 2)))) a_nil))))
    (b_cons (s_par 4 5 (a_cons (e_op o_mul p_mul (e_lst (a_cons e_int a_nil)) e_int) (a_cons (e_split (e_var 0) (a_cons (e_str (Str.mk #[10])) a_nil)) a_nil)))
    (b_cons (s_forC [1, 4, 5] (i_seq (b := false) (e_slice (e_var 5) o_none (o_some (e_neg e_int)))) (g_name 6) (b_cons (s_if (t_bool (w_or (t_cmp o_notin p_notin (e_callB c_len p_len t.b_len (a_cons (e_var 6) a_nil)) (e_tup (a_cons e_int (a_cons e_int a_nil)))) (w_or (t_cmp o_ne p_ne (e_ixU (e_var 6) (e_neg e_int)) (e_str (Str.mk #[32]))) (w_or1 (t_cmp o_notin p_notin (e_slice (e_var 6) (o_some (e_neg e_int)) o_none) (e_var 1)))))) (b_one (s_ret e_bl)) b_nil)
    (b_cons (s_par 7 8 (a_cons (e_slice (e_var 6) o_none (o_some (e_neg e_int))) (a_cons (e_index (e_var 1) (a_cons (e_slice (e_var 6) (o_some (e_neg e_int)) o_none) a_nil)) a_nil)))
    (b_cons (s_if (t_cmp o_notin p_notin (e_var 7) (e_op o_add p_add (e_lst (a_cons (e_str (Str.mk #[43])) (a_cons (e_str (Str.mk #[45])) a_nil))) (e_var 1))) (b_one (s_ret e_bl)) b_nil)
    (b_cons (s_if (t_cmp o_ne p_ne (e_var 7) (e_str (Str.mk #[43]))) (b_cons (s_set 9 (e_if (t_cmp o_eq p_eq (e_var 7) (e_str (Str.mk #[45]))) (e_var 8) (e_index (e_var 1) (a_cons (e_var 7) a_nil))))
    (b_cons (s_if (t_cmp o_eq p_eq (e_ixU (e_var 4) (e_var 9)) e_int) (b_one (s_ret e_bl)) b_nil)
    (b_one (s_put (e_var 4) (e_var 9) (e_op o_sub p_sub (e_ixU (e_var 4) (e_var 9)) e_int))))) b_nil)
    (b_one (s_put (e_var 4) (e_var 8) (e_op o_add p_add (e_ixU (e_var 4) (e_var 8)) (e_callT c_int p_int t.b_int (a_cons (e_cmp o_ne p_ne (e_var 7) (e_str (Str.mk #[45]))) a_nil))))))))))
    (b_one (s_ret (e_cmp o_eq p_eq (e_ixU (e_var 5) (e_neg e_int)) (e_str (Str.mk #[]))))))))
theorem sc_law : FnScope ["script", "poll", "k", "text", "rows", "some", "cell", "at", "two", "one", "told", "good", "bad"] ["script"] (defScope s_law) := ⟨rfl, rfl, rfl, by decide +kernel, rfl, by decide +kernel, by decide +kernel⟩
theorem bi_law : BindsAll "law" s_law ["script"] := fun _ _ _ _ _ _ us hl => match us, hl with | [_], _ => rfl
theorem ok_law {P : Program} {w : World} {g : Gd} {mg : Str → Option Value} {base : Heap} (t : Ft g mg base) {k : Nat} {F_Poll___init__ : Fn} {F__law_did : Fn} {F__law_deed : Fn} {F_Poll_book : Fn} {F_poll_text : Fn} {F__law_cell : Fn} {F__law_pick : Fn} {F__law_spoilt : Fn} {F_read_poll : Fn} {F__law_can_be : Fn} (h_Poll___init__ : Okm P w g mg base k "__init__" ["self"] 1 F_Poll___init__) (h__law_did : Okf P w g mg base k "_law_did" ["poll", "deed"] 2 F__law_did) (h__law_deed : Okf P w g mg base k "_law_deed" ["script", "at", "book"] 3 F__law_deed) (h_Poll_book : Okm P w g mg base k "book" ["self"] 1 F_Poll_book) (h_poll_text : Okf P w g mg base k "poll_text" ["poll"] 1 F_poll_text) (h__law_cell : Okf P w g mg base k "_law_cell" ["script", "k"] 2 F__law_cell) (h__law_pick : Okf P w g mg base k "_law_pick" ["script", "k", "many"] 3 F__law_pick) (h__law_spoilt : Okf P w g mg base k "_law_spoilt" ["text", "cell", "signs"] 3 F__law_spoilt) (h_read_poll : Okf P w g mg base k "read_poll" ["text"] 1 F_read_poll) (h__law_can_be : Okf P w g mg base k "_law_can_be" ["text"] 1 F__law_can_be) : Okf P w g mg base (k + 3) "law" ["script"] 1 (D_law F_Poll___init__ F__law_did F__law_deed F_Poll_book F_poll_text F__law_cell F__law_pick F__law_spoilt F_read_poll F__law_can_be) :=
  mk_fnL t.d_law t.f_law bi_law sc_law rfl rfl fun f cdv A outer s H E hcd =>
    (b_base (bn_cons [0, 1] (sn_lift (s_set 1 (e_make t.cin (h_Poll___init__.mono (Nat.le_add_right _ 1)) rfl)))
    (bn_cons [0, 1] (sn_lift (s_forT [0, 1] (i_range1 (b := false) t.b_range (a_cons e_int a_nil)) (g_name 2) (bn_one (sn_lift (s_expr (e_callF (h__law_did.mono (Nat.le_add_right _ 2)) rfl (a_cons (e_var 1) (a_cons (e_callF (h__law_deed.mono (Nat.le_add_right _ 2)) rfl (a_cons (e_var 0) (a_cons (e_op o_add p_add e_int (e_op o_mul p_mul e_int (e_var 2))) (a_cons (e_methP0 t.cin.cls (h_Poll_book.mono (Nat.le_add_right _ 2)) rfl (e_var 1)) a_nil)))) a_nil))))))))
    (bn_cons [0, 3] (sn_lift (s_set 3 (e_callF (h_poll_text.mono (Nat.le_add_right _ 2)) rfl (a_cons (e_var 1) a_nil))))
    (bn_cons [0, 3, 4, 5] (sn_lift (s_par 4 5 (a_cons (e_split (e_var 3) (a_cons (e_str (Str.mk #[10])) a_nil)) (a_cons (e_lst (a_cons (e_var 3) a_nil)) a_nil))))
    (bn_cons [5] (sn_lift (s_forT [0, 3, 4, 5] (i_range1 (b := false) t.b_range (a_cons e_int a_nil)) (g_name 2) (bn_cons [0, 2, 3, 4, 5, 6] (sn_lift (s_set 6 (e_op o_add p_add (e_op o_mul p_mul (e_callF (h__law_cell.mono (Nat.le_add_right _ 2)) rfl (a_cons (e_var 0) (a_cons (e_op o_add p_add e_int (e_var 2)) a_nil))) e_int) (e_callF (h__law_pick.mono (Nat.le_add_right _ 2)) rfl (a_cons (e_var 0) (a_cons (e_op o_add p_add e_int (e_var 2)) (a_cons e_int a_nil)))))))
    (bn_cons [0, 2, 3, 4, 5] (sn_lift (s_expr (e_append (e_var 5) (a_cons (e_callF (h__law_spoilt.mono (Nat.le_add_right _ 2)) rfl (a_cons (e_var 3) (a_cons (e_var 6) (a_cons (e_str (Str.mk #[97, 98, 99, 43, 45, 32, 10])) a_nil)))) a_nil))))
    (bn_cons [0, 3, 4, 5, 7] (sn_lift (s_set 7 (e_callF (h__law_pick.mono (Nat.le_add_right _ 2)) rfl (a_cons (e_var 0) (a_cons (e_op o_add p_add e_int (e_var 2)) (a_cons (e_callB c_len p_len t.b_len (a_cons (e_var 4) a_nil)) a_nil))))))
    (bn_cons [0, 3, 4, 5, 7, 8] (sn_lift (s_set 8 (e_slice (e_var 4) (o_some (e_var 7)) (o_some (e_op o_add p_add (e_var 7) e_int)))))
    (bn_cons [0, 3, 4, 5, 7, 8] (sn_lift (s_expr (e_append (e_var 5) (a_cons (e_join (e_str (Str.mk #[10])) (a_cons (e_op o_add p_add (e_slice (e_var 4) o_none (o_some (e_var 7))) (e_slice (e_var 4) (o_some (e_op o_add p_add (e_var 7) e_int)) o_none)) a_nil)) a_nil))))
    (bn_cons [0, 3, 4, 5, 7, 8] (sn_lift (s_expr (e_append (e_var 5) (a_cons (e_join (e_str (Str.mk #[10])) (a_cons (e_op o_add p_add (e_slice (e_var 4) o_none (o_some (e_op o_add p_add (e_var 7) e_int))) (e_slice (e_var 4) (o_some (e_var 7)) o_none)) a_nil)) a_nil))))
    (bn_one (sn_lift (s_expr (e_append (e_var 5) (a_cons (e_join (e_str (Str.mk #[10])) (a_cons (e_op o_add p_add (e_op o_add p_add (e_slice (e_var 4) o_none (o_some (e_var 7))) (e_rev (e_var 8))) (e_slice (e_var 4) (o_some (e_op o_add p_add (e_var 7) e_int)) o_none)) a_nil)) a_nil)))))))))))))
    (bn_cons [] (sn_lift (s_forT [] (i_seq (b := false) (e_var 5)) (g_name 9) (bn_cons [9, 10] (sn_lift (s_set 10 (e_told (i := 1) t.d__law_told t.f__law_told bi__law_told sc__law_told is_told (hot_ts t) t.exn t.tb_law hcd t.tm_law t.tu_law rfl (fun _ _ _ _ _ _ _ => (e_callF h_poll_text rfl (a_cons (e_callF h_read_poll rfl (a_cons (e_var 9) a_nil)) a_nil))))))
    (bn_one (sn_if (t_cmp o_ne p_ne (e_var 10) (e_if (t_val (e_callF (h__law_can_be.mono (Nat.le_add_right _ 2)) rfl (a_cons (e_var 9) a_nil))) (e_var 9) (e_str (Str.mk #[110, 111, 32, 116, 101, 120, 116])))) (bn_one (sn_lift (s_ret e_bl))) bn_nil)))))
    (bn_cons [11] (sn_lift (s_set 11 (e_lst (a_cons (e_str (Str.mk #[])) (a_cons (e_str (Str.mk #[43, 32, 97, 98, 99, 10])) (a_cons (e_str (Str.mk #[43, 32, 97, 98, 99, 10, 97, 98, 99, 32, 99, 98, 97, 10, 45, 32, 99, 98, 97, 10])) (a_cons (e_str (Str.mk #[43, 32, 98, 99, 97, 10, 98, 99, 97, 32, 98, 99, 97, 10])) a_nil)))))))
    (bn_cons [] (sn_if (t_cmp o_ne p_ne (e_comp [("one", 9)] (i_seq (b := false) (e_var 11)) (blkOk_by (by rfl)) (fun _ _ _ _ _ => (g_name 9)) (fun _ _ _ _ _ => ts_nil) (fun _ _ _ _ _ => (e_callF (h_poll_text.mono (Nat.le_add_right _ 2)) rfl (a_cons (e_callF (h_read_poll.mono (Nat.le_add_right _ 2)) rfl (a_cons (e_var 9) a_nil)) a_nil)))) (e_var 11)) (bn_one (sn_lift (s_ret e_bl))) bn_nil)
    (bn_cons [12] (sn_lift (s_set 12 (e_lst (a_cons (e_str (Str.mk #[10])) (a_cons (e_str (Str.mk #[43, 32, 97, 98, 99])) (a_cons (e_str (Str.mk #[45, 32, 97, 98, 99, 10])) (a_cons (e_str (Str.mk #[97, 98, 99, 32, 99, 98, 97, 10])) (a_cons (e_str (Str.mk #[43, 32, 97, 98, 100, 10])) (a_cons (e_str (Str.mk #[43, 32, 97, 98, 10])) (a_cons (e_str (Str.mk #[43, 97, 98, 99, 10])) (a_cons (e_str (Str.mk #[43, 32, 32, 97, 98, 99, 10])) (a_cons (e_str (Str.mk #[32, 43, 32, 97, 98, 99, 10])) a_nil))))))))))))
    (bn_cons [12] (sn_lift (s_expr (e_extend (e_var 12) (a_cons (e_lst (a_cons (e_str (Str.mk #[43, 32, 97, 98, 99, 32, 10])) (a_cons (e_str (Str.mk #[42, 32, 97, 98, 99, 10])) a_nil))) a_nil))))
    (bn_cons [12] (sn_lift (s_expr (e_extend (e_var 12) (a_cons (e_lst (a_cons (e_str (Str.mk #[43, 32, 97, 98, 99, 10, 10])) (a_cons (e_str (Str.mk #[43, 32, 65, 98, 99, 10])) (a_cons (e_str (Str.mk #[43, 32, 97, 98, 99, 32, 97, 98, 99, 10])) (a_cons (e_str (Str.mk #[43, 32, 97, 98, 99, 10, 45, 32, 97, 98, 99, 10, 45, 32, 97, 98, 99, 10])) (a_cons (e_op o_repS p_repS (e_str (Str.mk #[43, 32, 97, 98, 99, 10])) e_int) (a_cons e_non (a_cons e_int a_nil)))))))) a_nil))))
    (bn_cons [12] (sn_lift (s_expr (e_extend (e_var 12) (a_cons (e_lst (a_cons (e_tup (a_cons (e_str (Str.mk #[43, 32, 97, 98, 99, 10])) a_nil)) a_nil)) a_nil))))
    (bn_one (sn_lift (s_ret (e_cmp o_eq p_eq (e_comp [("one", 9)] (i_seq (b := false) (e_var 12)) (blkOk_by (by rfl)) (fun _ _ _ _ _ => (g_name 9)) (fun _ _ _ _ _ => ts_nil) (fun _ _ _ _ _ => (e_told (i := 1) t.d__law_told t.f__law_told bi__law_told sc__law_told is_told (hot_ts t) t.exn t.tb_law hcd t.tm_law t.tu_law rfl (fun _ _ _ _ _ _ _ => (e_callF h_read_poll rfl (a_cons (e_var 9) a_nil)))))) (e_op o_mul p_mul (e_lst (a_cons (e_str (Str.mk #[110, 111, 32, 116, 101, 120, 116])) a_nil)) e_int))))))))))))))))))
def dd_Poll___init__ : He.DefD := ⟨("Poll", some "__init__"), "__init__", "Poll.__init__", defArgs s_Poll___init__, defBody s_Poll___init__, defScope s_Poll___init__, [], []⟩
def dd_is_whole : He.DefD := ⟨("is_whole", none), "is_whole", "is_whole", defArgs s_is_whole, defBody s_is_whole, defScope s_is_whole, [], []⟩
def dd_is_book : He.DefD := ⟨("is_book", none), "is_book", "is_book", defArgs s_is_book, defBody s_is_book, defScope s_is_book, [], []⟩
def dd_look_book : He.DefD := ⟨("look_book", none), "look_book", "look_book", defArgs s_look_book, defBody s_look_book, defScope s_look_book, [], []⟩
def dd_look_number : He.DefD := ⟨("look_number", none), "look_number", "look_number", defArgs s_look_number, defBody s_look_number, defScope s_look_number, [], []⟩
def dd_changed_to : He.DefD := ⟨("changed_to", none), "changed_to", "changed_to", defArgs s_changed_to, defBody s_changed_to, defScope s_changed_to, [], []⟩
def dd_changed : He.DefD := ⟨("changed", none), "changed", "changed", defArgs s_changed, defBody s_changed, defScope s_changed, [], []⟩
def dd_Poll_go : He.DefD := ⟨("Poll", some "go"), "go", "Poll.go", defArgs s_Poll_go, defBody s_Poll_go, defScope s_Poll_go, [], []⟩
def dd_Poll_change : He.DefD := ⟨("Poll", some "change"), "change", "Poll.change", defArgs s_Poll_change, defBody s_Poll_change, defScope s_Poll_change, [], []⟩
def dd_Poll_add : He.DefD := ⟨("Poll", some "add"), "add", "Poll.add", defArgs s_Poll_add, defBody s_Poll_add, defScope s_Poll_add, [], []⟩
def dd_Poll_drop : He.DefD := ⟨("Poll", some "drop"), "drop", "Poll.drop", defArgs s_Poll_drop, defBody s_Poll_drop, defScope s_Poll_drop, [], []⟩
def dd__law_did : He.DefD := ⟨("_law_did", none), "_law_did", "_law_did", defArgs s__law_did, defBody s__law_did, defScope s__law_did, [], []⟩
def dd__law_cell : He.DefD := ⟨("_law_cell", none), "_law_cell", "_law_cell", defArgs s__law_cell, defBody s__law_cell, defScope s__law_cell, [], []⟩
def dd__law_pick : He.DefD := ⟨("_law_pick", none), "_law_pick", "_law_pick", defArgs s__law_pick, defBody s__law_pick, defScope s__law_pick, [], []⟩
def dd__law_deed : He.DefD := ⟨("_law_deed", none), "_law_deed", "_law_deed", defArgs s__law_deed, defBody s__law_deed, defScope s__law_deed, [], []⟩
def dd_Poll_book : He.DefD := ⟨("Poll", some "book"), "book", "Poll.book", defArgs s_Poll_book, defBody s_Poll_book, defScope s_Poll_book, [], []⟩
def dd_Poll_steps : He.DefD := ⟨("Poll", some "steps"), "steps", "Poll.steps", defArgs s_Poll_steps, defBody s_Poll_steps, defScope s_Poll_steps, [], []⟩
def dd_wish_text : He.DefD := ⟨("wish_text", none), "wish_text", "wish_text", defArgs s_wish_text, defBody s_wish_text, defScope s_wish_text, [], []⟩
def dd_step_text : He.DefD := ⟨("step_text", none), "step_text", "step_text", defArgs s_step_text, defBody s_step_text, defScope s_step_text, [], []⟩
def dd_poll_text : He.DefD := ⟨("poll_text", none), "poll_text", "poll_text", defArgs s_poll_text, defBody s_poll_text, defScope s_poll_text, [], []⟩
def dd__law_spoilt : He.DefD := ⟨("_law_spoilt", none), "_law_spoilt", "_law_spoilt", defArgs s__law_spoilt, defBody s__law_spoilt, defScope s__law_spoilt, [], []⟩
def dd_do_line : He.DefD := ⟨("do_line", none), "do_line", "do_line", defArgs s_do_line, defBody s_do_line, defScope s_do_line, [], []⟩
def dd_read_poll : He.DefD := ⟨("read_poll", none), "read_poll", "read_poll", defArgs s_read_poll, defBody s_read_poll, defScope s_read_poll, [], []⟩
def dd__law_wishes : He.DefD := ⟨("_law_wishes", none), "_law_wishes", "_law_wishes", defArgs s__law_wishes, defBody s__law_wishes, defScope s__law_wishes, [], []⟩
def dd__law_can_be : He.DefD := ⟨("_law_can_be", none), "_law_can_be", "_law_can_be", defArgs s__law_can_be, defBody s__law_can_be, defScope s__law_can_be, [], []⟩
def dd_law : He.DefD := ⟨("law", none), "law", "law", defArgs s_law, defBody s_law, defScope s_law, [], []⟩
def dd__law_class : He.DefD := ⟨("_law_class", none), "_law_class", "_law_class", defArgs s__law_class, defBody s__law_class, defScope s__law_class, [], []⟩
def dd__law_told : He.DefD := ⟨("_law_told", none), "_law_told", "_law_told", defArgs s__law_told, defBody s__law_told, defScope s__law_told, [], []⟩
def fn : List He.DefD := [dd_Poll___init__, dd_is_whole, dd_is_book, dd_look_book, dd_look_number, dd_changed_to, dd_changed, dd_Poll_go, dd_Poll_change, dd_Poll_add, dd_Poll_drop, dd__law_did, dd__law_cell, dd__law_pick, dd__law_deed, dd_Poll_book, dd_Poll_steps, dd_wish_text, dd_step_text, dd_poll_text, dd__law_spoilt, dd_do_line, dd_read_poll, dd__law_wishes, dd__law_can_be, dd_law, dd__law_class, dd__law_told]
def fa : List He.Fa := [.meth "Poll" "__init__", .glo "is_whole", .glo "is_book", .glo "look_book", .glo "look_number", .glo "changed_to", .glo "changed", .meth "Poll" "go", .meth "Poll" "change", .meth "Poll" "add", .meth "Poll" "drop", .glo "_law_did", .glo "_law_cell", .glo "_law_pick", .glo "_law_deed", .meth "Poll" "book", .meth "Poll" "steps", .glo "wish_text", .glo "step_text", .glo "poll_text", .glo "_law_spoilt", .glo "do_line", .glo "read_poll", .glo "_law_wishes", .glo "_law_can_be", .glo "law", .glo "_law_class", .glo "_law_told", .free "ValueError", .free "all", .free "bool", .free "dict", .free "enumerate", .free "int", .free "isinstance", .free "len", .free "list", .free "range", .free "str", .free "tuple", .glo "Poll", .cls "Poll", .noat "Poll" "now", .noat "Poll" "past", .noat "Poll" "later", .mkr "Poll"]
def tfn : List Str := ["_law_did", "law"]
def tf : List He.Defn := tfn.map fun x => (x, none)
def ex (K : PySem.W.Frag) : Bool := conB K "GREATEST" c_GREATEST && conB K "NAMES" c_NAMES && conB K "WISHES" c_WISHES && exnB K [0, 1, 2, 3, 4, 5, 6, 7] && decide ((He.cT K ("_law_did", none)).2 ≠ (He.cT K ("law", none)).2)
theorem ft {g : Gd} {h : Heap} {mg : Str → Option Value} (X : g.K.In h) (G : h.Ns mainGlobals mg) (c : He.SaysD fa fn g.K) (e : ex g.K = true) (hh : g.hot = none) (hG : g.G = clsG g.K) {base : Heap} (hT : g.T = tfn.map (tabQ g.K)) (tb : ∀ x ∈ tfn, LamX.TabB base mg (He.cT g.K (x, none)).1 (He.cT g.K (x, none)).2) : Ft g mg base := by
  unfold ex at e
  simp only [Bool.and_eq_true] at e
  exact {
    cold := hh
    b_ValueError := He.free_ok X G (c.fact 28 (f := .free "ValueError") rfl)
    b_all := He.free_ok X G (c.fact 29 (f := .free "all") rfl)
    b_bool := He.free_ok X G (c.fact 30 (f := .free "bool") rfl)
    b_dict := He.free_ok X G (c.fact 31 (f := .free "dict") rfl)
    b_enumerate := He.free_ok X G (c.fact 32 (f := .free "enumerate") rfl)
    b_int := He.free_ok X G (c.fact 33 (f := .free "int") rfl)
    b_isinstance := He.free_ok X G (c.fact 34 (f := .free "isinstance") rfl)
    b_len := He.free_ok X G (c.fact 35 (f := .free "len") rfl)
    b_list := He.free_ok X G (c.fact 36 (f := .free "list") rfl)
    b_range := He.free_ok X G (c.fact 37 (f := .free "range") rfl)
    b_str := He.free_ok X G (c.fact 38 (f := .free "str") rfl)
    b_tuple := He.free_ok X G (c.fact 39 (f := .free "tuple") rfl)
    m___init__ := by rw [hG]; exact He.meth_ok (c.fact 0 (f := .meth "Poll" "__init__") rfl)
    d_Poll___init__ := by rw [hG]; exact c.def_ 0 (d := dd_Poll___init__) rfl
    f_is_whole := He.glo_ok X G (c.fact 1 (f := .glo "is_whole") rfl)
    d_is_whole := c.def_ 1 (d := dd_is_whole) rfl
    f_is_book := He.glo_ok X G (c.fact 2 (f := .glo "is_book") rfl)
    d_is_book := c.def_ 2 (d := dd_is_book) rfl
    f_look_book := He.glo_ok X G (c.fact 3 (f := .glo "look_book") rfl)
    d_look_book := c.def_ 3 (d := dd_look_book) rfl
    f_look_number := He.glo_ok X G (c.fact 4 (f := .glo "look_number") rfl)
    d_look_number := c.def_ 4 (d := dd_look_number) rfl
    f_changed_to := He.glo_ok X G (c.fact 5 (f := .glo "changed_to") rfl)
    d_changed_to := c.def_ 5 (d := dd_changed_to) rfl
    f_changed := He.glo_ok X G (c.fact 6 (f := .glo "changed") rfl)
    d_changed := c.def_ 6 (d := dd_changed) rfl
    m_go := by rw [hG]; exact He.meth_ok (c.fact 7 (f := .meth "Poll" "go") rfl)
    d_Poll_go := by rw [hG]; exact c.def_ 7 (d := dd_Poll_go) rfl
    m_change := by rw [hG]; exact He.meth_ok (c.fact 8 (f := .meth "Poll" "change") rfl)
    d_Poll_change := by rw [hG]; exact c.def_ 8 (d := dd_Poll_change) rfl
    m_add := by rw [hG]; exact He.meth_ok (c.fact 9 (f := .meth "Poll" "add") rfl)
    d_Poll_add := by rw [hG]; exact c.def_ 9 (d := dd_Poll_add) rfl
    m_drop := by rw [hG]; exact He.meth_ok (c.fact 10 (f := .meth "Poll" "drop") rfl)
    d_Poll_drop := by rw [hG]; exact c.def_ 10 (d := dd_Poll_drop) rfl
    f__law_did := He.glo_ok X G (c.fact 11 (f := .glo "_law_did") rfl)
    d__law_did := c.def_ 11 (d := dd__law_did) rfl
    f__law_cell := He.glo_ok X G (c.fact 12 (f := .glo "_law_cell") rfl)
    d__law_cell := c.def_ 12 (d := dd__law_cell) rfl
    f__law_pick := He.glo_ok X G (c.fact 13 (f := .glo "_law_pick") rfl)
    d__law_pick := c.def_ 13 (d := dd__law_pick) rfl
    f__law_deed := He.glo_ok X G (c.fact 14 (f := .glo "_law_deed") rfl)
    d__law_deed := c.def_ 14 (d := dd__law_deed) rfl
    m_book := by rw [hG]; exact He.meth_ok (c.fact 15 (f := .meth "Poll" "book") rfl)
    d_Poll_book := by rw [hG]; exact c.def_ 15 (d := dd_Poll_book) rfl
    m_steps := by rw [hG]; exact He.meth_ok (c.fact 16 (f := .meth "Poll" "steps") rfl)
    d_Poll_steps := by rw [hG]; exact c.def_ 16 (d := dd_Poll_steps) rfl
    f_wish_text := He.glo_ok X G (c.fact 17 (f := .glo "wish_text") rfl)
    d_wish_text := c.def_ 17 (d := dd_wish_text) rfl
    f_step_text := He.glo_ok X G (c.fact 18 (f := .glo "step_text") rfl)
    d_step_text := c.def_ 18 (d := dd_step_text) rfl
    f_poll_text := He.glo_ok X G (c.fact 19 (f := .glo "poll_text") rfl)
    d_poll_text := c.def_ 19 (d := dd_poll_text) rfl
    f__law_spoilt := He.glo_ok X G (c.fact 20 (f := .glo "_law_spoilt") rfl)
    d__law_spoilt := c.def_ 20 (d := dd__law_spoilt) rfl
    f_do_line := He.glo_ok X G (c.fact 21 (f := .glo "do_line") rfl)
    d_do_line := c.def_ 21 (d := dd_do_line) rfl
    f_read_poll := He.glo_ok X G (c.fact 22 (f := .glo "read_poll") rfl)
    d_read_poll := c.def_ 22 (d := dd_read_poll) rfl
    f__law_wishes := He.glo_ok X G (c.fact 23 (f := .glo "_law_wishes") rfl)
    d__law_wishes := c.def_ 23 (d := dd__law_wishes) rfl
    f__law_can_be := He.glo_ok X G (c.fact 24 (f := .glo "_law_can_be") rfl)
    d__law_can_be := c.def_ 24 (d := dd__law_can_be) rfl
    f_law := He.glo_ok X G (c.fact 25 (f := .glo "law") rfl)
    d_law := c.def_ 25 (d := dd_law) rfl
    f__law_class := He.glo_ok X G (c.fact 26 (f := .glo "_law_class") rfl)
    d__law_class := c.def_ 26 (d := dd__law_class) rfl
    f__law_told := He.glo_ok X G (c.fact 27 (f := .glo "_law_told") rfl)
    d__law_told := c.def_ 27 (d := dd__law_told) rfl
    cin := by
      have hg8 : g.G 8 = He.ga g.K "Poll" := by rw [hG]; rfl
      exact ⟨by rw [hg8]; exact He.glo_ok X G (c.fact 40 (f := .glo "Poll") rfl), by rw [hg8]; exact He.cls_ok (c.fact 41 (f := .cls "Poll") rfl), by rw [hg8]; exact He.noat_ok (c.fact 42 (f := .noat "Poll" "now") rfl), by rw [hg8]; exact He.noat_ok (c.fact 43 (f := .noat "Poll" "past") rfl), by rw [hg8]; exact He.noat_ok (c.fact 44 (f := .noat "Poll" "later") rfl), by rw [hg8]; exact He.mkr_ok (c.fact 45 (f := .mkr "Poll") rfl)⟩
    c_GREATEST := conB_ok X G e.1.1.1.1
    c_NAMES := conB_ok X G e.1.1.1.2
    c_WISHES := conB_ok X G e.1.1.2
    exn := exnB_ok X G hG e.1.2
    tb__law_did := tb "_law_did" (by decide)
    tm__law_did := by rw [hT]; exact List.mem_map.mpr ⟨"_law_did", by decide, rfl⟩
    tu__law_did := by
      rw [hT]; intro p hp q; obtain ⟨y, hy, rfl⟩ := List.mem_map.mp hp
      rcases (by simpa [tfn] using hy : y = "_law_did" ∨ y = "law") with rfl | rfl
      · exact rfl
      · exact absurd q.symm (of_decide_eq_true e.2)
    tb_law := tb "law" (by decide)
    tm_law := by rw [hT]; exact List.mem_map.mpr ⟨"law", by decide, rfl⟩
    tu_law := by
      rw [hT]; intro p hp q; obtain ⟨y, hy, rfl⟩ := List.mem_map.mp hp
      rcases (by simpa [tfn] using hy : y = "_law_did" ∨ y = "law") with rfl | rfl
      · exact absurd q (of_decide_eq_true e.2)
      · exact rfl
  }
theorem k_Poll___init__ {P : Program} {w : World} {g : Gd} {mg : Str → Option Value} {base : Heap} (t : Ft g mg base) : Okm P w g mg base 1 "__init__" ["self"] 1 Poll___init__ := ok_Poll___init__ t (k := 0)
theorem k_is_whole {P : Program} {w : World} {g : Gd} {mg : Str → Option Value} {base : Heap} (t : Ft g mg base) : Okf P w g mg base 1 "is_whole" ["thing", "low", "high"] 3 is_whole := ok_is_whole t (k := 0)
theorem k_is_book {P : Program} {w : World} {g : Gd} {mg : Str → Option Value} {base : Heap} (t : Ft g mg base) : Okf P w g mg base 2 "is_book" ["thing"] 1 is_book := ok_is_book t (k := 1) ((k_is_whole t).mono (by decide))
theorem k_look_book {P : Program} {w : World} {g : Gd} {mg : Str → Option Value} {base : Heap} (t : Ft g mg base) : Okf P w g mg base 3 "look_book" ["book"] 1 look_book := ok_look_book t (k := 2) ((k_is_book t).mono (by decide))
theorem k_look_number {P : Program} {w : World} {g : Gd} {mg : Str → Option Value} {base : Heap} (t : Ft g mg base) : Okf P w g mg base 2 "look_number" ["number"] 1 look_number := ok_look_number t (k := 1) ((k_is_whole t).mono (by decide))
theorem k_changed_to {P : Program} {w : World} {g : Gd} {mg : Str → Option Value} {base : Heap} (t : Ft g mg base) : Okf P w g mg base 1 "changed_to" ["book", "number", "other"] 3 changed_to := ok_changed_to t (k := 0)
theorem k_changed {P : Program} {w : World} {g : Gd} {mg : Str → Option Value} {base : Heap} (t : Ft g mg base) : Okf P w g mg base 4 "changed" ["book", "number", "other"] 3 changed := ok_changed t (k := 3) ((k_look_book t).mono (by decide)) ((k_look_number t).mono (by decide)) ((k_changed_to t).mono (by decide))
theorem k_Poll_go {P : Program} {w : World} {g : Gd} {mg : Str → Option Value} {base : Heap} (t : Ft g mg base) : Okm P w g mg base 1 "go" ["self", "step", "book"] 3 Poll_go := ok_Poll_go t (k := 0)
theorem k_Poll_change {P : Program} {w : World} {g : Gd} {mg : Str → Option Value} {base : Heap} (t : Ft g mg base) : Okm P w g mg base 5 "change" ["self", "number", "other"] 3 Poll_change := ok_Poll_change t (k := 4) ((k_changed t).mono (by decide)) ((k_Poll_go t).mono (by decide))
theorem k_Poll_add {P : Program} {w : World} {g : Gd} {mg : Str → Option Value} {base : Heap} (t : Ft g mg base) : Okm P w g mg base 3 "add" ["self", "number"] 2 Poll_add := ok_Poll_add t (k := 2) ((k_look_number t).mono (by decide)) ((k_Poll_go t).mono (by decide))
theorem k_Poll_drop {P : Program} {w : World} {g : Gd} {mg : Str → Option Value} {base : Heap} (t : Ft g mg base) : Okm P w g mg base 5 "drop" ["self", "number"] 2 Poll_drop := ok_Poll_drop t (k := 4) ((k_changed t).mono (by decide)) ((k_Poll_go t).mono (by decide))
theorem k__law_did {P : Program} {w : World} {g : Gd} {mg : Str → Option Value} {base : Heap} (t : Ft g mg base) : Okf P w g mg base 8 "_law_did" ["poll", "deed"] 2 _law_did := ok__law_did t (k := 5) ((k_Poll_change t).mono (by decide)) ((k_Poll_add t).mono (by decide)) ((k_Poll_drop t).mono (by decide))
theorem k__law_cell {P : Program} {w : World} {g : Gd} {mg : Str → Option Value} {base : Heap} (t : Ft g mg base) : Okf P w g mg base 1 "_law_cell" ["script", "k"] 2 (_law_cell g.ns) := ok__law_cell t (k := 0)
theorem k__law_pick {P : Program} {w : World} {g : Gd} {mg : Str → Option Value} {base : Heap} (t : Ft g mg base) : Okf P w g mg base 2 "_law_pick" ["script", "k", "many"] 3 (_law_pick g.ns) := ok__law_pick t (k := 1) ((k__law_cell t).mono (by decide))
theorem k__law_deed {P : Program} {w : World} {g : Gd} {mg : Str → Option Value} {base : Heap} (t : Ft g mg base) : Okf P w g mg base 3 "_law_deed" ["script", "at", "book"] 3 (_law_deed g.ns) := ok__law_deed t (k := 2) ((k__law_pick t).mono (by decide))
theorem k_Poll_book {P : Program} {w : World} {g : Gd} {mg : Str → Option Value} {base : Heap} (t : Ft g mg base) : Okm P w g mg base 1 "book" ["self"] 1 Poll_book := ok_Poll_book t (k := 0)
theorem k_Poll_steps {P : Program} {w : World} {g : Gd} {mg : Str → Option Value} {base : Heap} (t : Ft g mg base) : Okm P w g mg base 1 "steps" ["self"] 1 Poll_steps := ok_Poll_steps t (k := 0)
theorem k_wish_text {P : Program} {w : World} {g : Gd} {mg : Str → Option Value} {base : Heap} (t : Ft g mg base) : Okf P w g mg base 1 "wish_text" ["wish"] 1 wish_text := ok_wish_text t (k := 0)
theorem k_step_text {P : Program} {w : World} {g : Gd} {mg : Str → Option Value} {base : Heap} (t : Ft g mg base) : Okf P w g mg base 2 "step_text" ["step"] 1 step_text := ok_step_text t (k := 1) ((k_wish_text t).mono (by decide))
theorem k_poll_text {P : Program} {w : World} {g : Gd} {mg : Str → Option Value} {base : Heap} (t : Ft g mg base) : Okf P w g mg base 3 "poll_text" ["poll"] 1 poll_text := ok_poll_text t (k := 2) ((k_Poll_steps t).mono (by decide)) ((k_step_text t).mono (by decide))
theorem k__law_spoilt {P : Program} {w : World} {g : Gd} {mg : Str → Option Value} {base : Heap} (t : Ft g mg base) : Okf P w g mg base 1 "_law_spoilt" ["text", "cell", "signs"] 3 _law_spoilt := ok__law_spoilt t (k := 0)
theorem k_do_line {P : Program} {w : World} {g : Gd} {mg : Str → Option Value} {base : Heap} (t : Ft g mg base) : Okf P w g mg base 6 "do_line" ["poll", "words", "numbers"] 3 do_line := ok_do_line t (k := 5) ((k_Poll_add t).mono (by decide)) ((k_Poll_drop t).mono (by decide)) ((k_Poll_change t).mono (by decide))
theorem k_read_poll {P : Program} {w : World} {g : Gd} {mg : Str → Option Value} {base : Heap} (t : Ft g mg base) : Okf P w g mg base 8 "read_poll" ["text"] 1 read_poll_t := ok_read_poll t (k := 6) ((k_wish_text t).mono (by decide)) ((k_Poll___init__ t).mono (by decide)) ((k_do_line t).mono (by decide))
theorem k__law_wishes {P : Program} {w : World} {g : Gd} {mg : Str → Option Value} {base : Heap} (t : Ft g mg base) : Okf P w g mg base 1 "_law_wishes" [] 0 _law_wishes := ok__law_wishes t (k := 0)
theorem k__law_can_be {P : Program} {w : World} {g : Gd} {mg : Str → Option Value} {base : Heap} (t : Ft g mg base) : Okf P w g mg base 2 "_law_can_be" ["text"] 1 _law_can_be := ok__law_can_be t (k := 1) ((k__law_wishes t).mono (by decide))
theorem k_law {P : Program} {w : World} {g : Gd} {mg : Str → Option Value} {base : Heap} (t : Ft g mg base) : Okf P w g mg base 11 "law" ["script"] 1 (law g.ns) := ok_law t (k := 8) ((k_Poll___init__ t).mono (by decide)) ((k__law_did t).mono (by decide)) ((k__law_deed t).mono (by decide)) ((k_Poll_book t).mono (by decide)) ((k_poll_text t).mono (by decide)) ((k__law_cell t).mono (by decide)) ((k__law_pick t).mono (by decide)) ((k__law_spoilt t).mono (by decide)) ((k_read_poll t).mono (by decide)) ((k__law_can_be t).mono (by decide))
def names0 : List PySem.Str := ["_wall", "WishError", "NoBook", "NoRule", "NoPromise", "NoThing", "NoRanking", "NoText", "NoBack", "WISHES", "THINGS", "GREATEST", "is_whole", "is_book", "look_book", "turned", "ahead_in", "more", "DEEPEST", "MOST_POINTS", "is_rule_in", "is_rule", "look_rule", "points_of", "duels_of", "worst_of", "rows_by", "ranked", "by_leaving", "outcome"]
def names1 : List PySem.Str := ["look_number", "changed_to", "changed", "NAMES", "wish_text", "Poll", "step_text", "poll_text", "do_line", "read_poll", "_law_cell", "_law_pick", "_law_class", "_law_told", "_law_wishes", "_law_deed", "_law_behind", "_law_did", "_law_spoilt", "_law_can_be"]
def names : List PySem.Str := names0 ++ names1
abbrev RR : PySem.W.OpenRow := PySem.W.OpenLaw.row PySem.Challenge.rw_wishrules_k43_whole_poll_texts_spoilt
abbrev hk : PySem.W.Hook := He.hookX 4 fa fn [] tf ex
def ob (s : PySem.W.SharedT) : He.AlX := He.obsX 4 fa fn [] tf ex (HandSHeadRun.getT s)
theorem ob_eq (s : PySem.W.SharedT) : ob s = hk.obs s.abs := He.obsX_eq (HandSHeadRun.getT_eq s)
theorem run (w : World) : HandSHeadRun.RunEq RR (PySem.W.view RR.prog [57]) hk ob 12480 names w := by
  intro os
  kernel_rfl
theorem facts {w : World} {K : PySem.W.Frag} {h : Heap} {mg : Str → Option Value} {f : Addr} (ok : ∀ s : List Int, s.length ≤ 63 → ∃ h, law s [.scr] [] = .ok (.bl true) h) (X : K.In h) (G : h.Ns mainGlobals mg) (hfa : mg ("law" : Str) = some (.ref f)) (c : He.SaysX fa fn [] tf ex w h K) :
    LamX.LawAtS PySem.Challenge.rw_wishrules_k43_whole_poll_texts_spoilt w K (CXM RR.prog w) 11 63 "script" mg f h := by
  obtain ⟨fd, F⟩ := c.t.d.def_ 25 (d := dd_law) rfl
  have e := hfa.symm.trans (He.glo_ok X G (c.t.d.fact 25 (f := .glo "law") rfl))
  cases e
  have b := FunD.bindsA (ps := ["script"]) F fun _ _ _ _ _ _ us hl => match us, hl with | [_], _ => rfl
  have hm : ∀ x ∈ tfn, ((x, none) : He.Defn) ∈ tf := fun x hx => List.mem_map.mpr ⟨x, hx, rfl⟩
  exact lawAt (tf := tfn) (G := clsG K) X (fun x hx => c.hd _ (hm x hx)) (fun x hx => c.out _ (hm x hx)) (fun x hx => c.empty _ (hm x hx)) (fun s v => b s [v] rfl) ok fun base XB GB hT => law_okT (fdO_of F) fun sa ns => k_law (ft (g := gdT K (clsG K) tfn sa ns) XB GB c.t.d c.more rfl rfl rfl hT)
theorem holds (ok : ∀ s : List Int, s.length ≤ 63 → ∃ h, law s [.scr] [] = .ok (.bl true) h) : PySem.Challenge.rw_wishrules_k43_whole_poll_texts_spoilt.Holds := by
  w_on; o_law
  refine HandSHeadRun.head_any (r := RR) (q := PySem.W.view RR.prog [57]) (H := hk) (ob := ob) (M := 12480) (loose := names) (d := HandSHeadRun.topDef RR.prog 57) (kwd := []) ob_eq
    (by kernel_rfl) (fun s => by kernel_rfl) run (by kernel_rfl) (by kernel_rfl) (by kernel_rfl) (by rfl) (by first | assumption | decide +kernel) (by decide +kernel) ⟨rfl, rfl, rfl, rfl, rfl, by decide +kernel⟩ ?hw ?hc
  case hw => w_witness2
  case hc =>
    refine LamX.walk_ofTsE (l := PySem.Challenge.rw_wishrules_k43_whole_poll_texts_spoilt) (n := 63) (k := 11) (x := "script") (CX := fun w => CXM RR.prog w) rfl (by decide) (by kernel_rfl) ⟨rfl, by decide, by decide⟩ ?F (fun w H s e s' z => cx_false RR.prog w H s e s' z)
    intro w mg fa h Y G hmg0
    obtain ⟨K, KX, c⟩ := Y
    have hmg : mg ("law" : PySem.Str) = some (.ref fa) := by
      have e : (HandSHeadRun.topDef RR.prog 57).name = ("law" : PySem.Str) := by kernel_rfl
      rw [← e]
      exact hmg0
    exact ⟨K, KX, facts ok KX G hmg c⟩
end K43
set_option Elab.async false
set_option linter.all false
set_option maxRecDepth 100000
set_option maxHeartbeats 4000000
set_option autoImplicit false
namespace Wr
open PySem PySem.Spec PyProof.Rows L2
@[simp] theorem ev_g0 {α : Type} (x : α) (l : List α) : (x :: l)[0]? = some x := rfl
@[simp] theorem dec_t {p : Prop} [Decidable p] (h : p) : decide p = true := decide_eq_true h
@[simp] theorem dec_f {p : Prop} [Decidable p] (h : ¬ p) : decide p = false := decide_eq_false h
section
variable (s : Sg) (h : Hs)
@[simp] theorem ev_min (i j : Int) : kMin [.int i, .int j] h = some (.int (if j < i then j else i), h) := rfl
@[simp] theorem ev_tupT (ys : List Va) : kTuple [.tup ys] h = some (.tup ys, h) := rfl
@[simp] theorem ev_tupL (r : Nat) : kTuple [.ref r] h = (lstArg [.ref r] h).map fun ys => (.tup ys, h) := rfl
@[simp] theorem ev_listL (r : Nat) : kList [.ref r] h = (lstArg [.ref r] h).map fun ys => (.ref h.length, h ++ [.lst ys]) := rfl
@[simp] theorem ev_listT (ys : List Va) : kList [.tup ys] h = some (.ref h.length, h ++ [.lst ys]) := rfl
@[simp] theorem ev_asgT (t : Tg) (f : De) : dAsgT t f s h = (f s h).bindS s fun v h1 => match setT t v s h1 with
  | some s1 => .nx s1 h1
  | none => .no := rfl
@[simp] theorem ev_compR (lo : Int) (n : Nat) (t : Tg) (test : Dt) (el : De) : compL (.rng lo n) t test el s (itLen (.rng lo n) h + 1) 0 h = compS t test el s (rngV lo n) h := by
  refine compS_gen (.rng lo n) (rngV lo n) t test el s (fun i h' hi => rngV_nxt lo n i h') (n + 1) 0 h ?_ (by omega)
  simp [rngV]
@[simp] theorem rng3 : rngV 0 3 = [.int 0, .int 1, .int 2] := rfl
@[simp] theorem rng6e : rngV 0 6 = [.int 0, .int 1, .int 2, .int 3, .int 4, .int 5] := rfl
@[simp] theorem ev_rng1 (f : Da) : dRng1 f s h = (f s h).bind fun vs h1 => match vs with
  | [.int j] => if rgOk 0 j then .ok (.rng 0 j.toNat) h1 else .no
  | _ => .no := rfl
@[simp] theorem rg3 : rgOk 0 3 = true := rfl
@[simp] theorem rg6 : rgOk 0 6 = true := rfl
@[simp] theorem ite_t {α : Type} {c : Prop} [Decidable c] (hc : c) (x y : α) : (if c then x else y) = x := if_pos hc
@[simp] theorem ite_f {α : Type} {c : Prop} [Decidable c] (hc : ¬ c) (x y : α) : (if c then x else y) = y := if_neg hc
@[simp] theorem ev_ixT (xs : List Va) (i : Int) : kIxU (.tup xs) (.int i) h = match (L2.atI xs i).map fun v => (v, h) with
  | some r => some r
  | none => kDg (.tup xs) (.int i) h := rfl
end
section
variable (h : Hs)
@[simp] theorem ev_ixR (r : Nat) (i : Int) : kIxU (.ref r) (.int i) h = match (match h[r]? with
  | some (.lst xs) => (L2.atI xs i).map fun v => (v, h)
  | _ => none) with
  | some q => some q
  | none => kDg (.ref r) (.int i) h := rfl
@[simp] theorem ev_eqG (x y : Va) : kEq x y h = match toD h 9 x with
  | some d => match toD h 9 y with
    | some e => some (.bl (PyData.eqv d e), h)
    | none => none
  | none => none := rfl
@[simp] theorem ev_neG (x y : Va) : kNe x y h = match toD h 9 x with
  | some d => match toD h 9 y with
    | some e => some (.bl (!PyData.eqv d e), h)
    | none => none
  | none => none := rfl
@[simp] theorem toD_non (n : Nat) : toD h n .non = some .none := by cases n <;> rfl
@[simp] theorem toD_bl (n : Nat) (b : Bool) : toD h n (.bl b) = some (.bool b) := by cases n <;> rfl
@[simp] theorem toD_int (n : Nat) (i : Int) : toD h n (.int i) = some (.int i) := by cases n <;> rfl
@[simp] theorem toD_tup (n : Nat) (xs : List Va) : toD h (n + 1) (.tup xs) = (mapO (toD h n) xs).map .tuple := rfl
@[simp] theorem toD_ref (n i : Nat) : toD h (n + 1) (.ref i) = match h[i]? with
    | some (.lst xs) => (mapO (toD h n) xs).map .list
    | _ => none := rfl
@[simp] theorem mapO_nil {α β : Type} (f : α → Option β) : mapO f [] = some [] := rfl
@[simp] theorem mapO_cons {α β : Type} (f : α → Option β) (x : α) (l : List α) : mapO f (x :: l) = match f x with
  | some y => (mapO f l).map (y :: ·)
  | none => none := by
  cases e : f x with
  | none => simp [mapO, e]
  | some y => cases e2 : mapO f l <;> simp [mapO, e, e2]
@[simp] theorem eqv_int (i j : Int) : PyData.eqv (.int i) (.int j) = decide (i = j) := by simp [PyData.eqv, bd_int]
@[simp] theorem eqv_tup (xs ys : List PyData) : PyData.eqv (.tuple xs) (.tuple ys) = PyData.eqvAll xs ys := by simp [PyData.eqv]
@[simp] theorem eqv_lst (xs ys : List PyData) : PyData.eqv (.list xs) (.list ys) = PyData.eqvAll xs ys := by simp [PyData.eqv]
@[simp] theorem eqv_all0 : PyData.eqvAll [] [] = true := by simp [PyData.eqvAll]
@[simp] theorem eqv_all1 (x y : PyData) (xs ys : List PyData) : PyData.eqvAll (x :: xs) (y :: ys) = (PyData.eqv x y && PyData.eqvAll xs ys) := by simp [PyData.eqvAll]
@[simp] theorem ev_atI {α : Type} (xs : List α) (i : Int) : L2.atI xs i = (L2.ixN xs.length i).bind fun j => xs[j]? := rfl
@[simp] theorem ev_ixN (n : Nat) (i : Int) : L2.ixN n i = if 0 ≤ i then (if i < n then some i.toNat else none) else if -(n : Int) ≤ i then some (i + n).toNat else none := rfl
end
end Wr
namespace Pg
open PySem PySem.Spec PyProof.Rows L2 Wr
section
variable (a b c d e f : Int)
abbrev B99 (a b c d e f : Int) : Prop := (0 ≤ a ∧ a ≤ 99) ∧ (0 ≤ b ∧ b ≤ 99) ∧ (0 ≤ c ∧ c ≤ 99) ∧ (0 ≤ d ∧ d ≤ 99) ∧ (0 ≤ e ∧ e ≤ 99) ∧ (0 ≤ f ∧ f ≤ 99)
theorem B99.bok {a b c d e f : Int} (h : B99 a b c d e f) : Bok a b c d e f := by
  obtain ⟨h0, h1, h2, h3, h4, h5⟩ := h
  intro x hx
  simp only [List.mem_cons, List.not_mem_nil, or_false] at hx
  rcases hx with rfl | rfl | rfl | rfl | rfl | rfl <;> assumption
theorem pickN (ns : List Int) (k m : Int) (hk : 0 ≤ k) (hm : 0 < m) : ∃ r : Nat, (r : Int) < m ∧ ∀ h, callD (_law_pick ns) [.scr, .int k, .int m] h = .ok (.int r) h := by
  obtain ⟨c, hc⟩ := cell_ok ns k hk
  have w : ∀ h', callD (_law_cell ns) [.scr, .int k] h' = .ok (.int c) h' := fun h' => callD_flat rfl rfl rfl hc
  generalize hd : (c + 6151 * (k + 1)) * 40692 % 2147483399 = d
  have h1 : 0 ≤ d := by rw [← hd]; exact Int.emod_nonneg _ (by decide)
  have h2 : d < 2147483399 := by rw [← hd]; exact Int.emod_lt_of_pos _ (by decide)
  have z1 : -18446744073709551616 < d := by omega
  have z2 : d < 18446744073709551616 := by omega
  have q1 : 0 ≤ (d * d + d / 31) % 2147483629 % m := Int.emod_nonneg _ (by omega)
  have q2 : (d * d + d / 31) % 2147483629 % m < m := Int.emod_lt_of_pos _ hm
  obtain ⟨r, hr⟩ := Int.eq_ofNat_of_zero_le q1
  refine ⟨r, by omega, fun h => ?_⟩
  rw [← hr]
  refine callD_flat rfl rfl rfl ?_
  simp [_law_pick, D__law_pick, fnD, w, kMod, hd, z1, z2, kFdivW, hm, toRs]
  rfl
end
end Pg
set_option Elab.async false
set_option linter.all false
set_option maxRecDepth 100000
set_option maxHeartbeats 4000000
set_option autoImplicit false
namespace Wr
open PySem PySem.Spec PyProof.Rows L2
def tdS (h : Hs) (n : Nat) (xs : List Va) : Option (List PyData) := mapO (toD h n) xs
def tdLL (o : Option (List PyData)) : Option PyData := o.map .list
def tdTT (o : Option (List PyData)) : Option PyData := o.map .tuple
def tdC (o : Option PyData) (p : Option (List PyData)) : Option (List PyData) := match o with
  | some y => match p with
    | some ys => some (y :: ys)
    | none => none
  | none => none
def puN (o : Option Nat) (xs : List Va) (r : Nat) (v : Va) (h : Hs) : Option Hs := o.map fun j => h.set r (.lst (xs.set j v))
def hasK (i : Int) : List (Key × Va) → Bool
  | [] => false
  | (.inl j, _) :: l => decide (j = i) || hasK i l
  | _ :: l => hasK i l
def repK (i : Int) (v : Va) : List (Key × Va) → List (Key × Va)
  | [] => []
  | (.inl j, w) :: l => (.inl j, bif decide (j = i) then v else w) :: repK i v l
  | x :: l => x :: repK i v l
def pk2 (kvs : List (Key × Va)) (i : Int) (v : Va) : List (Key × Va) := bif hasK i kvs then repK i v kvs else kvs ++ [(.inl i, v)]
theorem hasK_is (i : Int) : ∀ l : List (Key × Va), (l.any fun kv => decide (kv.1 = .inl i)) = hasK i l
  | [] => rfl
  | (.inl j, w) :: l => by
    rw [List.any_cons, hasK_is i l]
    by_cases e : j = i
    · subst e; simp [hasK]
    · have e2 : ¬ (Sum.inl j : Key) = Sum.inl i := fun q => e (Sum.inl.inj q)
      simp [hasK, e, e2]
  | (.inr x, w) :: l => by
    rw [List.any_cons, hasK_is i l]
    simp [hasK]
theorem repK_is (i : Int) (v : Va) : ∀ l : List (Key × Va), (l.map fun kv => if kv.1 = .inl i then (kv.1, v) else kv) = repK i v l
  | [] => rfl
  | (.inl j, w) :: l => by
    rw [List.map_cons, repK_is i v l]
    by_cases e : j = i
    · subst e; simp [repK]
    · have e2 : ¬ (Sum.inl j : Key) = Sum.inl i := fun q => e (Sum.inl.inj q)
      simp [repK, e, e2]
  | (.inr x, w) :: l => by
    rw [List.map_cons, repK_is i v l]
    simp [repK]
theorem pk2_is (kvs : List (Key × Va)) (i : Int) (v : Va) : pK kvs (.inl i) v = pk2 kvs i v := by
  unfold pK pk2
  rw [hasK_is, repK_is, cond_eq_ite]
def lft (o : Option (Va × Hs)) : Rs Va := liftO o
def op2 (k : K2) (x : Va) (r : Rs Va) : Rs Va := r.bind fun y h2 => liftO (k x y h2)
def op1 (k : K2) (r : Rs Va) (fb : De) (s : Sg) : Rs Va := r.bind fun x h1 => op2 k x (fb s h1)
def tst (r : Rs Va) : Rs Bool := r.bind isB
def ac2 (x : Va) (r : Rs (List Va)) : Rs (List Va) := r.bind fun xs h2 => .ok (x :: xs) h2
def ac1 (r : Rs Va) (g : Da) (s : Sg) : Rs (List Va) := r.bind fun x h1 => ac2 x (g s h1)
def tu1 (r : Rs (List Va)) : Rs Va := r.bind fun xs h1 => if okN xs.length then .ok (.tup xs) h1 else .no
def ls1 (r : Rs (List Va)) : Rs Va := r.bind mkL
def nt1 (r : Rs Bool) : Rs Bool := r.bind fun c h1 => .ok (!c) h1
def and1 (r : Rs Bool) (k : Dt) (s : Sg) : Rs Bool := r.bind fun c h1 => match c with
  | true => k s h1
  | false => .ok false h1
def andv1 (r : Rs Va) (k : De) (s : Sg) : Rs Va := r.bind fun c h1 => match c with
  | .bl true => k s h1
  | .bl false => .ok (.bl false) h1
  | _ => .no
def or1 (r : Rs Bool) (k : Dt) (s : Sg) : Rs Bool := r.bind fun c h1 => match c with
  | true => .ok true h1
  | false => k s h1
def orv1 (r : Rs Va) (k : De) (s : Sg) : Rs Va := r.bind fun c h1 => match c with
  | .bl true => .ok (.bl true) h1
  | .bl false => k s h1
  | _ => .no
def nv1 (r : Rs Va) : Rs Va := r.bind fun c h1 => match c with
  | .bl c => .ok (.bl (!c)) h1
  | _ => .no
def ife1 (r : Rs Bool) (f k : De) (s : Sg) : Rs Va := r.bind fun c h1 => match c with
  | true => f s h1
  | false => k s h1
def ifs1 (r : Rs Bool) (f k : Ds) (s : Sg) : RS := r.bindS s fun c h1 => match c with
  | true => f s h1
  | false => k s h1
def ex1 (r : Rs Va) (s : Sg) : RS := r.bindS s fun _ h1 => .nx s h1
def rt1 (r : Rs Va) (s : Sg) : RS := r.bindS s fun v h1 => .rt v h1
def st1 (i : Nat) (r : Rs Va) (s : Sg) : RS := r.bindS s fun v h1 => .nx (s.set i (some v)) h1
def ca1 (F : Fn) (np : Nat) (r : Rs (List Va)) : Rs Va := r.bind fun xs h1 => if xs.length == np then callD F xs h1 else .no
def b1 (k : K1) (r : Rs (List Va)) : Rs Va := r.bind fun xs h1 => liftO (k xs h1)
def ch4 (k : K2) (y : Va) (r : Rs Va) : Rs Va := r.bind fun w h4 => liftO (k y w h4)
def ch3 (k' : K2) (y : Va) (r : Rs Va) (fc : De) (s : Sg) : Rs Va := r.bind fun z h3 => match z with
  | .bl true => ch4 k' y (fc s h3)
  | .bl false => .ok (.bl false) h3
  | _ => .no
def ch2 (k k' : K2) (x : Va) (r : Rs Va) (fc : De) (s : Sg) : Rs Va := r.bind fun y h2 => ch3 k' y (liftO (k x y h2)) fc s
def ch1 (k k' : K2) (r : Rs Va) (fb fc : De) (s : Sg) : Rs Va := r.bind fun x h1 => ch2 k k' x (fb s h1) fc s
def it1 (r : Rs Va) : Rs It' := r.bind itOf
def itR (o : Option Ob) (r : Nat) (h : Hs) : Rs It' := match o with
  | some (.lst _) => .ok (.lst r) h
  | _ => .no
def zi3 (a : It') (r : Rs It') : Rs It' := r.bind fun b h2 => .ok (.zip a b) h2
def zi2 (r : Rs It') (y : Va) : Rs It' := r.bind fun a h1 => zi3 a (it1 (.ok y h1))
def zi1 (r : Rs (List Va)) : Rs It' := r.bind fun vs h1 => match vs with
  | [x, y] => if noStr x && noStr y then pairIt x y h1 else .no
  | _ => .no
def en2 (r : Rs It') : Rs It' := r.bind fun a h1 => .ok (.enum a) h1
def rn1 (r : Rs (List Va)) : Rs It' := r.bind fun vs h1 => match vs with
  | [.int j] => if rgOk 0 j then .ok (.rng 0 j.toNat) h1 else .no
  | _ => .no
def nxL (o : Option Ob) (i : Nat) : Option (Option Va) := match o with
  | some (.lst xs) => some xs[i]?
  | _ => none
def zz : Option (Option Va) → Option (Option Va) → Option (Option Va)
  | some (some x), some (some y) => some (some (.tup [x, y]))
  | some _, some _ => some none
  | _, _ => none
def ee (i : Nat) : Option (Option Va) → Option (Option Va)
  | some (some x) => some (some (.tup [.int (i : Int), x]))
  | some none => some none
  | none => none
def lnL (o : Option Ob) : Nat := match o with
  | some (.lst xs) => xs.length
  | _ => 0
def co2 (r : Rs (List Va)) : Rs Va := r.bind mkL
def co1 (r : Rs It') (t : Tg) (test : Dt) (el : De) (s : Sg) : Rs Va := r.bind fun it h1 => co2 (compL it t test el s (itLen it h1 + 1) 0 h1)
def clE (y : Va) (r : Rs (List Va)) : Rs (List Va) := match r with
  | .ok ys h3 => .ok (y :: ys) h3
  | _ => .no
def clD (r : Rs Va) (it : It') (t : Tg) (test : Dt) (el : De) (s : Sg) (f i : Nat) : Rs (List Va) := match r with
  | .ok y h2 => clE y (compL it t test el s f (i + 1) h2)
  | _ => .no
def clC (r : Rs Bool) (s1 : Sg) (it : It') (t : Tg) (test : Dt) (el : De) (s : Sg) (f i : Nat) : Rs (List Va) := match r with
  | .ok true h1 => clD (el s1 h1) it t test el s f i
  | .ok false h1 => compL it t test el s f (i + 1) h1
  | _ => .no
def clB (o : Option Sg) (it : It') (t : Tg) (test : Dt) (el : De) (s : Sg) (f i : Nat) (h : Hs) : Rs (List Va) := match o with
  | some s1 => clC (test s1 h) s1 it t test el s f i
  | none => .no
def clA (o : Option (Option Va)) (it : It') (t : Tg) (test : Dt) (el : De) (s : Sg) (f i : Nat) (h : Hs) : Rs (List Va) := match o with
  | some none => .ok [] h
  | some (some v) => clB (setT t v s h) it t test el s f i h
  | none => .no
def setR (o : Option Ob) (is : List Nat) (s : Sg) : Option Sg := match o with
  | some (.lst xs) => setEach is xs s
  | _ => none
def as2 (o : Option Sg) (h : Hs) : RS := match o with
  | some s1 => .nx s1 h
  | none => .no
def as1 (t : Tg) (r : Rs Va) (s : Sg) : RS := r.bindS s fun v h1 => as2 (setT t v s h1) h1
def pa1 (is : List Nat) (r : Rs (List Va)) (s : Sg) : RS := r.bindS s fun vs h1 => match is, vs with
  | [i, j], [x, y] => .nx ((s.set i (some x)).set j (some y)) h1
  | _, _ => .no
def pu4 (o : Option Hs) (s : Sg) : RS := match o with
  | some h4 => .nx s h4
  | none => .no
def pu3 (k : Va → Va → Va → Hs → Option Hs) (v o : Va) (r : Rs Va) (s : Sg) : RS := r.bindS s fun i h3 => pu4 (k o i v h3) s
def pu2 (k : Va → Va → Va → Hs → Option Hs) (v : Va) (fi : De) (r : Rs Va) (s : Sg) : RS := r.bindS s fun o h2 => pu3 k v o (fi s h2) s
def pu1 (k : Va → Va → Va → Hs → Option Hs) (fo fi : De) (r : Rs Va) (s : Sg) : RS := r.bindS s fun v h1 => pu2 k v fi (fo s h1) s
def fo1 (live : List Nat) (t : Tg) (body : Ds) (r : Rs It') (s : Sg) : RS := r.bindS s fun it h1 => forC h1.length live it t body (itLen it h1 + 1) 0 s h1
def conT (n0 : Nat) (live : List Nat) (it : It') (t : Tg) (body : Ds) (f i : Nat) (r : RS) : RS := match r with
  | .nx s2 h2 => forC n0 live it t body f (i + 1) s2 h2
  | .ct s2 h2 => forC n0 live it t body f (i + 1) s2 h2
  | .bk s2 h2 => .nx s2 h2
  | .rt v h2 => .rt v h2
  | .ex c s2 h2 => .ex c s2 h2
  | .no => .no
def fC (o : Option Sg) (n0 : Nat) (live : List Nat) (it : It') (t : Tg) (body : Ds) (f i : Nat) (h : Hs) : RS := match o with
  | some s1 => conT n0 live it t body f i (body s1 h)
  | none => .no
def fB (o : Option (Option Va)) (n0 : Nat) (live : List Nat) (it : It') (t : Tg) (body : Ds) (f i : Nat) (s : Sg) (h : Hs) : RS := match o with
  | some none => .nx s h
  | some (some v) => fC (setT t v s h) n0 live it t body f i h
  | none => .no
def fA (o : Option (Sg × Hs)) (n0 : Nat) (live : List Nat) (it : It') (t : Tg) (body : Ds) (f i : Nat) : RS := match o with
  | some (s, h) => fB (nxt it i h) n0 live it t body f i s h
  | none => .no
def me3 (k : KM) (x : Va) (r : Rs (List Va)) : Rs Va := r.bind fun xs h2 => liftO (k x xs h2)
def me2 (b : Bool) (k : KM) (x : Va) (fa : Da) (s : Sg) (h : Hs) : Rs Va := match b with
  | true => me3 k x (fa s h)
  | false => .no
def me1 (T : String) (k : KM) (r : Rs Va) (fa : Da) (s : Sg) : Rs Va := r.bind fun x h1 => me2 (isTy T x h1) k x fa s h1
def mm1 (T : String) (k : KM) (T2 : String) (k2 : KM) (r : Rs Va) (fa : Da) (s : Sg) : Rs Va := r.bind fun x h1 => match isTy T x h1 with
  | true => me3 k x (fa s h1)
  | false => me2 (isTy T2 x h1) k2 x fa s h1
def rv1 (r : Rs Va) : Rs Va := r.bind kRev
def rvL (o : Option Ob) (h : Hs) : Rs Va := match o with
  | some (.lst xs) => .ok (.ref h.length) (h ++ [.lst xs.reverse])
  | _ => .no
def ixo (o : Option Va) (h : Hs) (z : Option (Va × Hs)) : Option (Va × Hs) := match o with
  | some v => some (v, h)
  | none => z
def ixR (o : Option Ob) (i : Int) (h : Hs) : Option (Va × Hs) := match o with
  | some (.lst xs) => ixo (L2.atI xs i) h none
  | some (.dK kvs) => ixo (gK kvs (.inl i)) h none
  | some (.dF kvs) => ixo (gK kvs (.inl i)) h none
  | _ => none
def addL (o p : Option Ob) (h : Hs) : Option (Va × Hs) := match o with
  | some (.lst xs) => match p with
    | some (.lst ys) => if okN (xs.length + ys.length) then some (.ref h.length, h ++ [.lst (xs ++ ys)]) else none
    | _ => none
  | _ => none
def eq2 (o p : Option PyData) (h : Hs) (b : Bool) : Option (Va × Hs) := match o with
  | some d => match p with
    | some e => some (.bl (bif b then PyData.eqv d e else !PyData.eqv d e), h)
    | none => none
  | none => none
def tdL (o : Option Ob) (h : Hs) (n : Nat) : Option PyData := match o with
  | some (.lst xs) => (mapO (toD h n) xs).map .list
  | _ => none
def in2 (o p : Option PyData) (h : Hs) (b : Bool) : Option (Va × Hs) := match o with
  | some d => match p with
    | some (.list ds) => some (.bl (bif b then ds.any fun z => PyData.eqv z d else !(ds.any fun z => PyData.eqv z d)), h)
    | some (.tuple ds) => some (.bl (bif b then ds.any fun z => PyData.eqv z d else !(ds.any fun z => PyData.eqv z d)), h)
    | _ => none
  | none => none
def anyE (d : PyData) : List PyData → Bool
  | [] => false
  | x :: l => PyData.eqv x d || anyE d l
theorem anyE_is (d : PyData) : ∀ l : List PyData, (l.any fun z => PyData.eqv z d) = anyE d l
  | [] => rfl
  | x :: l => by rw [List.any_cons, anyE_is d l]; rfl
def lenR (o : Option Ob) (h : Hs) : Option (Va × Hs) := match o with
  | some (.lst ys) => some (.int ys.length, h)
  | _ => none
def lst? (o : Option Ob) : Option (List Va) := match o with
  | some (.lst ys) => some ys
  | _ => none
def tpo (o : Option (List Va)) (h : Hs) : Option (Va × Hs) := o.map fun ys => (.tup ys, h)
def lso (o : Option (List Va)) (h : Hs) : Option (Va × Hs) := o.map fun ys => (.ref h.length, h ++ [.lst ys])
def ints? (o : Option (List Va)) : Option (List Int) := o.bind intsV
def icn (i : Int) (o : Option (List Int)) : Option (List Int) := o.map (i :: ·)
def min? (o : Option (List Int)) (h : Hs) : Option (Va × Hs) := o.bind fun ns => match ns with
  | [] => none
  | m :: t => some (.int (minI m t), h)
def max? (o : Option (List Int)) (h : Hs) : Option (Va × Hs) := o.bind fun ns => match ns with
  | [] => none
  | m :: t => some (.int (maxI m t), h)
def srt? (o : Option (List Int)) (h : Hs) : Option (Va × Hs) := o.map fun ns => (.ref h.length, h ++ [.lst ((sortI ns).map Va.int)])
def sru? (o : Option (List Int)) (h : Hs) : Option (Va × Hs) := o.bind fun ns => if decide (ns.length < 64) then some (.ref h.length, h ++ [.lst ((sortU ns).map Va.int)]) else none
def sum? (o : Option (List Int)) (h : Hs) : Option (Va × Hs) := o.map fun ns => (.int ns.sum, h)
def bls? (o : Option (List Va)) : Option (List Bool) := o.bind bls
def bcn (b : Bool) (o : Option (List Bool)) : Option (List Bool) := o.map (b :: ·)
def allB : List Bool → Bool
  | [] => true
  | b :: l => b && allB l
def orB : List Bool → Bool
  | [] => false
  | b :: l => b || orB l
theorem allB_is : ∀ l : List Bool, l.all id = allB l
  | [] => rfl
  | b :: l => by rw [List.all_cons, allB_is l]; rfl
theorem orB_is : ∀ l : List Bool, l.any id = orB l
  | [] => rfl
  | b :: l => by rw [List.any_cons, orB_is l]; rfl
def all? (o : Option (List Bool)) (h : Hs) : Option (Va × Hs) := o.map fun bs => (.bl (allB bs), h)
def any? (o : Option (List Bool)) (h : Hs) : Option (Va × Hs) := o.map fun bs => (.bl (orB bs), h)
def apL (o : Option Ob) (r : Nat) (y : Va) (h : Hs) : Option (Va × Hs) := match o with
  | some (.lst ys) => if okN (ys.length + 1) then some (.non, h.set r (.lst (ys ++ [y]))) else none
  | _ => none
def exL (o p : Option Ob) (r : Nat) (h : Hs) : Option (Va × Hs) := match o with
  | some (.lst ys) => match p with
    | some (.lst zs) => if okN (ys.length + zs.length) then some (.non, h.set r (.lst (ys ++ zs))) else none
    | _ => none
  | _ => none
def isL (o : Option Ob) : Bool := match o with
  | some (.lst _) => true
  | _ => false
def puL (o : Option Ob) (r : Nat) (i : Int) (v : Va) (h : Hs) : Option Hs := match o with
  | some (.lst xs) => (L2.ixN xs.length i).map fun j => h.set r (.lst (xs.set j v))
  | some (.dK kvs) => if decide (kvs.length < 1000) then some (h.set r (.dK (pK kvs (.inl i) v))) else none
  | _ => none
def ng1 (r : Rs Va) : Rs Va := r.bind fun v h1 => match v with
  | .int i => .ok (.int (-i)) h1
  | _ => .no
def wh2 (r : RS) (c : Dt) (body : Ds) (f : Nat) : RS := match r with
  | .nx s2 h2 => whileD c body f s2 h2
  | .ct s2 h2 => whileD c body f s2 h2
  | .bk s2 h2 => .nx s2 h2
  | .rt v h2 => .rt v h2
  | .ex c s2 h2 => .ex c s2 h2
  | .no => .no
def wh1 (r : Rs Bool) (c : Dt) (body : Ds) (f : Nat) (s : Sg) : RS := match r with
  | .ok true h1 => wh2 (body s h1) c body f
  | .ok false h1 => .nx s h1
  | .ex c h1 => .ex c s h1
  | .no => .no
def lkD (o : Option Ob) (r : Nat) (v : Va) (h : Hs) : Rs Va := match o with
  | some (.dF kvs) => .ok v (h.set r (.dK kvs))
  | _ => .no
def lkC (r : Nat) (x : Rs Va) : Rs Va := match x with
  | .ok v h => lkD h[r]? r v h
  | _ => .no
def lkB (o : Option Ob) (r : Nat) (f : De) (s : Sg) (h : Hs) : Rs Va := match o with
  | some (.dK kvs) => lkC r (f s (h.set r (.dF kvs)))
  | _ => .no
def lkA (x : Rs Va) (f : De) (s : Sg) : Rs Va := match x with
  | .ok (.ref r) h => lkB h[r]? r f s h
  | _ => .no
def kys (kvs : List (Key × Va)) : List Va := kvs.map fun kv => kVa kv.1
def ke2 (o : Option Ob) (h : Hs) : Rs It' := match o with
  | some (.dF kvs) => .ok (.tup (kys kvs)) h
  | _ => .no
def ke1 (x : Rs Va) : Rs It' := x.bind keysIt
theorem u_v0 (v : Va) (t : Sg) (h : Hs) : dVar 0 (some v :: t) h = .ok v h := rfl
theorem u_vS (n : Nat) (x : Option Va) (t : Sg) (h : Hs) : dVar (n + 1) (x :: t) h = dVar n t h := rfl
theorem u_c (v : Va) (s : Sg) (h : Hs)  : dC v s h = .ok v h := rfl
theorem u_lft (v : Va) (h : Hs) : lft (some (v, h)) = .ok v h := rfl
theorem u_op (k : K2) (fa fb : De) (s : Sg) (h : Hs)  : dOp k fa fb s h = op1 k (fa s h) fb s := rfl
theorem u_op1 (k : K2) (x : Va) (fb : De) (s : Sg) (h : Hs)  : op1 k (.ok x h) fb s = op2 k x (fb s h) := rfl
theorem u_op2 (k : K2) (x y : Va) (h : Hs) : op2 k x (.ok y h) = lft (k x y h) := rfl
theorem u_test (f : De) (s : Sg) (h : Hs)  : dTest f s h = tst (f s h) := rfl
theorem u_tst (b : Bool) (h : Hs) : tst (.ok (.bl b) h) = .ok b h := rfl
theorem u_anil (s : Sg) (h : Hs)  : aNil s h = .ok [] h := rfl
theorem u_acons (f : De) (r : Da) (s : Sg) (h : Hs)  : aCons f r s h = ac1 (f s h) r s := rfl
theorem u_ac1 (x : Va) (g : Da) (s : Sg) (h : Hs)  : ac1 (.ok x h) g s = ac2 x (g s h) := rfl
theorem u_ac2 (x : Va) (xs : List Va) (h : Hs) : ac2 x (.ok xs h) = .ok (x :: xs) h := rfl
theorem u_tup (f : Da) (s : Sg) (h : Hs)  : dTup f s h = tu1 (f s h) := rfl
theorem u_tu1 (xs : List Va) (h : Hs) (hl : xs.length ≤ 16777216) : tu1 (.ok xs h) = .ok (.tup xs) h := by unfold tu1; simp only [ev_bind_ok]; rw [if_pos]; simpa using hl
theorem u_lst (f : Da) (s : Sg) (h : Hs)  : dLst f s h = ls1 (f s h) := rfl
theorem u_ls1 (xs : List Va) (h : Hs) (hl : xs.length ≤ 16777216) : ls1 (.ok xs h) = .ok (.ref h.length) (h ++ [.lst xs]) := by unfold ls1; simp only [ev_bind_ok, mkL]; rw [if_pos]; simpa using hl
theorem u_not (f : Dt) (s : Sg) (h : Hs)  : dNot f s h = nt1 (f s h) := rfl
theorem u_nt1 (b : Bool) (h : Hs) : nt1 (.ok b h) = .ok (!b) h := rfl
theorem u_and (f k : Dt) (s : Sg) (h : Hs)  : dAnd f k s h = and1 (f s h) k s := rfl
theorem u_and1t (k : Dt) (s : Sg) (h : Hs)  : and1 (.ok true h) k s = k s h := rfl
theorem u_and1f (k : Dt) (s : Sg) (h : Hs)  : and1 (.ok false h) k s = .ok false h := rfl
theorem u_andv (f k : De) (s : Sg) (h : Hs)  : dAndV f k s h = andv1 (f s h) k s := rfl
theorem u_andv1t (k : De) (s : Sg) (h : Hs)  : andv1 (.ok (.bl true) h) k s = k s h := rfl
theorem u_andv1f (k : De) (s : Sg) (h : Hs)  : andv1 (.ok (.bl false) h) k s = .ok (.bl false) h := rfl
theorem u_or (f k : Dt) (s : Sg) (h : Hs)  : dOr f k s h = or1 (f s h) k s := rfl
theorem u_or1t (k : Dt) (s : Sg) (h : Hs)  : or1 (.ok true h) k s = .ok true h := rfl
theorem u_or1f (k : Dt) (s : Sg) (h : Hs)  : or1 (.ok false h) k s = k s h := rfl
theorem u_orv (f k : De) (s : Sg) (h : Hs)  : dOrV f k s h = orv1 (f s h) k s := rfl
theorem u_orv1t (k : De) (s : Sg) (h : Hs)  : orv1 (.ok (.bl true) h) k s = .ok (.bl true) h := rfl
theorem u_orv1f (k : De) (s : Sg) (h : Hs)  : orv1 (.ok (.bl false) h) k s = k s h := rfl
theorem u_notv (f : De) (s : Sg) (h : Hs)  : dNotV f s h = nv1 (f s h) := rfl
theorem u_nv1 (b : Bool) (h : Hs) : nv1 (.ok (.bl b) h) = .ok (.bl (!b)) h := rfl
theorem u_ife (c : Dt) (f k : De) (s : Sg) (h : Hs)  : dIf c f k s h = ife1 (c s h) f k s := rfl
theorem u_ife1t (f k : De) (s : Sg) (h : Hs)  : ife1 (.ok true h) f k s = f s h := rfl
theorem u_ife1f (f k : De) (s : Sg) (h : Hs)  : ife1 (.ok false h) f k s = k s h := rfl
theorem u_ifs (c : Dt) (f k : Ds) (s : Sg) (h : Hs)  : dIfS c f k s h = ifs1 (c s h) f k s := rfl
theorem u_ifs1t (f k : Ds) (s : Sg) (h : Hs)  : ifs1 (.ok true h) f k s = f s h := rfl
theorem u_ifs1f (f k : Ds) (s : Sg) (h : Hs)  : ifs1 (.ok false h) f k s = k s h := rfl
theorem u_nx (s : Sg) (h : Hs)  : dNx s h = .nx s h := rfl
theorem u_ct (s : Sg) (h : Hs)  : dCt s h = .ct s h := rfl
theorem u_seq (f k : Ds) (s : Sg) (h : Hs)  : dSeq f k s h = andThen (f s h) k := rfl
theorem u_then (k : Ds) (s : Sg) (h : Hs)  : andThen (.nx s h) k = k s h := rfl
theorem u_then2 (v : Va) (k : Ds) (h : Hs) : andThen (.rt v h) k = .rt v h := rfl
theorem u_then3 (k : Ds) (s : Sg) (h : Hs)  : andThen (.ct s h) k = .ct s h := rfl
theorem u_drop (l : List Nat) (k : Ds) (s : Sg) (h : Hs)  : dDrop l k s h = k (maskS l 0 s) h := rfl
theorem u_mask0 (l : List Nat) (i : Nat) : maskS l i [] = [] := rfl
theorem u_mask1 (l : List Nat) (i : Nat) (x : Option Va) (t : Sg) : maskS l i (x :: t) = (bif l.contains i then x else none) :: maskS l (i + 1) t := by simp [maskS, cond_eq_ite]
theorem u_expr (f : De) (s : Sg) (h : Hs)  : dExpr f s h = ex1 (f s h) s := rfl
theorem u_ex1 (v : Va) (s : Sg) (h : Hs)  : ex1 (.ok v h) s = .nx s h := rfl
theorem u_ret (f : De) (s : Sg) (h : Hs)  : dRet f s h = rt1 (f s h) s := rfl
theorem u_rt1 (v : Va) (s : Sg) (h : Hs)  : rt1 (.ok v h) s = .rt v h := rfl
theorem u_set (i : Nat) (f : De) (s : Sg) (h : Hs)  : dSet i f s h = st1 i (f s h) s := rfl
theorem u_st1 (i : Nat) (v : Va) (s : Sg) (h : Hs)  : st1 i (.ok v h) s = .nx (s.set i (some v)) h := rfl
theorem u_call (F : Fn) (np : Nat) (a : Da) (s : Sg) (h : Hs)  : dCall F np a s h = ca1 F np (a s h) := rfl
theorem u_ca1 (F : Fn) (np : Nat) (xs : List Va) (h : Hs) (hl : xs.length = np) : ca1 F np (.ok xs h) = callD F xs h := by unfold ca1; simp only [ev_bind_ok]; rw [if_pos]; simpa using hl
theorem u_call0 (F : Fn) (s : Sg) (h : Hs)  : dCall0 F s h = callD F [] h := rfl
theorem u_B (k : K1) (f : Da) (s : Sg) (h : Hs)  : dB k f s h = b1 k (f s h) := rfl
theorem u_b1 (k : K1) (xs : List Va) (h : Hs) : b1 k (.ok xs h) = lft (k xs h) := rfl
theorem u_chain (k k' : K2) (fa fb fc : De) (s : Sg) (h : Hs)  : dChain k k' fa fb fc s h = ch1 k k' (fa s h) fb fc s := rfl
theorem u_ch1 (k k' : K2) (x : Va) (fb fc : De) (s : Sg) (h : Hs)  : ch1 k k' (.ok x h) fb fc s = ch2 k k' x (fb s h) fc s := rfl
theorem u_ch2 (k k' : K2) (x y : Va) (fc : De) (s : Sg) (h : Hs)  : ch2 k k' x (.ok y h) fc s = ch3 k' y (lft (k x y h)) fc s := rfl
theorem u_ch3t (k' : K2) (y : Va) (fc : De) (s : Sg) (h : Hs)  : ch3 k' y (.ok (.bl true) h) fc s = ch4 k' y (fc s h) := rfl
theorem u_ch3f (k' : K2) (y : Va) (fc : De) (s : Sg) (h : Hs)  : ch3 k' y (.ok (.bl false) h) fc s = .ok (.bl false) h := rfl
theorem u_ch4 (k' : K2) (y w : Va) (h : Hs) : ch4 k' y (.ok w h) = lft (k' y w h) := rfl
theorem u_it (f : De) (s : Sg) (h : Hs)  : dIt f s h = it1 (f s h) := rfl
theorem u_it1t (xs : List Va) (h : Hs) : it1 (.ok (.tup xs) h) = .ok (.tup xs) h := rfl
theorem u_it1r (r : Nat) (h : Hs) : it1 (.ok (.ref r) h) = itR h[r]? r h := rfl
theorem u_itR (xs : List Va) (r : Nat) (h : Hs) : itR (some (.lst xs)) r h = .ok (.lst r) h := rfl
theorem u_zip (f : Da) (s : Sg) (h : Hs)  : dZipS f s h = zi1 (f s h) := rfl
theorem u_zi1tt (xs : List Va) (ys : List Va) (h : Hs) : zi1 (.ok [(.tup xs), (.tup ys)] h) = zi2 (it1 (.ok (.tup xs) h)) (.tup ys) := rfl
theorem u_zi1tr (xs : List Va) (j : Nat) (h : Hs) : zi1 (.ok [(.tup xs), (.ref j)] h) = zi2 (it1 (.ok (.tup xs) h)) (.ref j) := rfl
theorem u_zi1rt (i : Nat) (ys : List Va) (h : Hs) : zi1 (.ok [(.ref i), (.tup ys)] h) = zi2 (it1 (.ok (.ref i) h)) (.tup ys) := rfl
theorem u_zi1rr (i : Nat) (j : Nat) (h : Hs) : zi1 (.ok [(.ref i), (.ref j)] h) = zi2 (it1 (.ok (.ref i) h)) (.ref j) := rfl
theorem u_zi2 (a : It') (y : Va) (h : Hs) : zi2 (.ok a h) y = zi3 a (it1 (.ok y h)) := rfl
theorem u_zi3 (a b : It') (h : Hs) : zi3 a (.ok b h) = .ok (.zip a b) h := rfl
theorem u_rng (f : Da) (s : Sg) (h : Hs)  : dRng1 f s h = rn1 (f s h) := rfl
theorem u_rn1 (j : Int) (h : Hs) (h1 : 0 ≤ j) (h2 : j ≤ 1000000) : rn1 (.ok [.int j] h) = .ok (.rng 0 j.toNat) h := by
  have e : rgOk 0 j = true := by simp [rgOk]; omega
  show (if rgOk 0 j = true then Rs.ok (It'.rng 0 j.toNat) h else .no) = _
  rw [if_pos e]
theorem u_nxtT (xs : List Va) (i : Nat) (h : Hs) : nxt (.tup xs) i h = some xs[i]? := rfl
theorem u_nxtL (r i : Nat) (h : Hs) : nxt (.lst r) i h = nxL h[r]? i := rfl
theorem u_nxL (xs : List Va) (i : Nat) : nxL (some (.lst xs)) i = some xs[i]? := rfl
theorem u_nxtR (lo : Int) (n i : Nat) (h : Hs) : nxt (.rng lo n) i h = some (bif decide (i < n) then some (.int (lo + (i : Int))) else none) := by simp [nxt, cond_eq_ite]
theorem u_nxtZ (a b : It') (i : Nat) (h : Hs) : nxt (.zip a b) i h = bif decide (i ≤ itLen a h) && decide (i ≤ itLen b h) then zz (nxt a i h) (nxt b i h) else none := by
  show (if (decide (i ≤ itLen a h) && decide (i ≤ itLen b h)) = true then _ else none) = _
  rw [← cond_eq_ite]
  congr 1
  cases nxt a i h with
  | none => cases nxt b i h <;> rfl
  | some x => cases nxt b i h with
    | none => cases x <;> rfl
    | some y => cases x <;> cases y <;> rfl
theorem u_zz1 (x y : Va) : zz (some (some x)) (some (some y)) = some (some (.tup [x, y])) := rfl
theorem u_zz2 (o : Option Va) : zz (some none) (some o) = some none := by cases o <;> rfl
theorem u_zz3 (o : Option Va) : zz (some o) (some none) = some none := by cases o <;> rfl
theorem u_nxtE (a : It') (i : Nat) (h : Hs) : nxt (.enum a) i h = bif decide (i ≤ itLen a h) then ee i (nxt a i h) else none := by
  show (if i ≤ itLen a h then _ else none) = _
  by_cases e : i ≤ itLen a h
  · rw [if_pos e, decide_eq_true e, cond_true]
    cases nxt a i h with
    | none => rfl
    | some x => cases x <;> rfl
  · rw [if_neg e, decide_eq_false e, cond_false]
theorem u_ee1 (i : Nat) (x : Va) : ee i (some (some x)) = some (some (.tup [.int (i : Int), x])) := rfl
theorem u_ee2 (i : Nat) : ee i (some none) = some none := rfl
theorem u_lenT (xs : List Va) (h : Hs) : itLen (.tup xs) h = xs.length := rfl
theorem u_lenL (r : Nat) (h : Hs) : itLen (.lst r) h = lnL h[r]? := rfl
theorem u_lnL (xs : List Va) : lnL (some (.lst xs)) = xs.length := rfl
theorem u_lenR (lo : Int) (n : Nat) (h : Hs) : itLen (.rng lo n) h = n := rfl
theorem u_lenZ (a b : It') (h : Hs) : itLen (.zip a b) h = min (itLen a h) (itLen b h) := rfl
theorem u_lenE (a : It') (h : Hs) : itLen (.enum a) h = itLen a h := rfl
theorem u_comp (own : List Nat) (di : Di) (t : Tg) (test : Dt) (el : De) (s : Sg) (h : Hs)  : dComp own di t test el s h = co1 (di s h) t test el (wipeS s own) := rfl
theorem u_co1 (it : It') (t : Tg) (test : Dt) (el : De) (s : Sg) (h : Hs)  : co1 (.ok it h) t test el s = co2 (compL it t test el s (itLen it h + 1) 0 h) := rfl
theorem u_co2 (xs : List Va) (h : Hs) (hl : xs.length ≤ 16777216) : co2 (.ok xs h) = .ok (.ref h.length) (h ++ [.lst xs]) := u_ls1 xs h hl
theorem u_w0 (s : Sg) : wipeS s [] = s := rfl
theorem u_w1 (s : Sg) (i : Nat) (l : List Nat) : wipeS s (i :: l) = (wipeS s l).set i none := rfl
theorem u_compL (it : It') (t : Tg) (test : Dt) (el : De) (s : Sg) (f i : Nat) (h : Hs) : compL it t test el s (f + 1) i h = clA (nxt it i h) it t test el s f i h := by
  unfold compL clA
  cases nxt it i h with
  | none => rfl
  | some o =>
    cases o with
    | none => rfl
    | some v =>
      simp only [clB]
      cases setT t v s h with
      | none => rfl
      | some s1 =>
        simp only [clC]
        cases test s1 h with
        | no => rfl
        | ex c h1 => rfl
        | ok b h1 =>
          cases b with
          | false => rfl
          | true =>
            simp only [clD]
            cases el s1 h1 with
            | no => rfl
            | ex c h1 => rfl
            | ok y h2 =>
              simp only [clE]
              cases compL it t test el s f (i + 1) h2 <;> rfl
theorem u_clA0 (it : It') (t : Tg) (test : Dt) (el : De) (s : Sg) (f i : Nat) (h : Hs) : clA (some none) it t test el s f i h = .ok [] h := rfl
theorem u_clA1 (v : Va) (it : It') (t : Tg) (test : Dt) (el : De) (s : Sg) (f i : Nat) (h : Hs) : clA (some (some v)) it t test el s f i h = clB (setT t v s h) it t test el s f i h := rfl
theorem u_clB (s1 : Sg) (it : It') (t : Tg) (test : Dt) (el : De) (s : Sg) (f i : Nat) (h : Hs) : clB (some s1) it t test el s f i h = clC (test s1 h) s1 it t test el s f i := rfl
theorem u_clCt (s1 : Sg) (it : It') (t : Tg) (test : Dt) (el : De) (s : Sg) (f i : Nat) (h : Hs) : clC (.ok true h) s1 it t test el s f i = clD (el s1 h) it t test el s f i := rfl
theorem u_clCf (s1 : Sg) (it : It') (t : Tg) (test : Dt) (el : De) (s : Sg) (f i : Nat) (h : Hs) : clC (.ok false h) s1 it t test el s f i = compL it t test el s f (i + 1) h := rfl
theorem u_clD (y : Va) (it : It') (t : Tg) (test : Dt) (el : De) (s : Sg) (f i : Nat) (h : Hs) : clD (.ok y h) it t test el s f i = clE y (compL it t test el s f (i + 1) h) := rfl
theorem u_clE (y : Va) (ys : List Va) (h : Hs) : clE y (.ok ys h) = .ok (y :: ys) h := rfl
theorem u_yes (s : Sg) (h : Hs)  : dYes s h = .ok true h := rfl
theorem u_setN (i : Nat) (v : Va) (s : Sg) (h : Hs)  : setT (.nm i) v s h = some (s.set i (some v)) := rfl
theorem u_set2 (i j : Nat) (x y : Va) (s : Sg) (h : Hs)  : setT (.tp [i, j]) (.tup [x, y]) s h = some ((s.set i (some x)).set j (some y)) := rfl
theorem u_set3 (i j k : Nat) (x y z : Va) (s : Sg) (h : Hs)  : setT (.tp [i, j, k]) (.tup [x, y, z]) s h = some (((s.set i (some x)).set j (some y)).set k (some z)) := rfl
theorem u_asg (t : Tg) (f : De) (s : Sg) (h : Hs)  : dAsgT t f s h = as1 t (f s h) s := rfl
theorem u_as1 (t : Tg) (v : Va) (s : Sg) (h : Hs)  : as1 t (.ok v h) s = as2 (setT t v s h) h := rfl
theorem u_as2 (s : Sg) (h : Hs)  : as2 (some s) h = .nx s h := rfl
theorem u_put (k : Va → Va → Va → Hs → Option Hs) (fo fi fv : De) (s : Sg) (h : Hs)  : dPutK k fo fi fv s h = pu1 k fo fi (fv s h) s := rfl
theorem u_pu1 (k : Va → Va → Va → Hs → Option Hs) (fo fi : De) (v : Va) (s : Sg) (h : Hs)  : pu1 k fo fi (.ok v h) s = pu2 k v fi (fo s h) s := rfl
theorem u_pu2 (k : Va → Va → Va → Hs → Option Hs) (v o : Va) (fi : De) (s : Sg) (h : Hs)  : pu2 k v fi (.ok o h) s = pu3 k v o (fi s h) s := rfl
theorem u_pu3 (k : Va → Va → Va → Hs → Option Hs) (v o i : Va) (s : Sg) (h : Hs)  : pu3 k v o (.ok i h) s = pu4 (k o i v h) s := rfl
theorem u_pu4 (s : Sg) (h : Hs)  : pu4 (some h) s = .nx s h := rfl
theorem u_for (live : List Nat) (di : Di) (t : Tg) (body : Ds) (s : Sg) (h : Hs)  : dForC live di t body s h = fo1 live t body (di s h) s := rfl
theorem u_fo1 (live : List Nat) (t : Tg) (body : Ds) (it : It') (s : Sg) (h : Hs)  : fo1 live t body (.ok it h) s = forC h.length live it t body (itLen it h + 1) 0 s h := rfl
theorem u_forS (n0 : Nat) (live : List Nat) (it : It') (t : Tg) (body : Ds) (f i : Nat) (s : Sg) (h : Hs)  : forC n0 live it t body (f + 1) i s h = fA (cleanS n0 live s h) n0 live it t body f i := by
  unfold forC fA
  cases cleanS n0 live s h with
  | none => rfl
  | some p =>
    obtain ⟨s1, h1⟩ := p
    simp only [fB]
    cases nxt it i h1 with
    | none => rfl
    | some o =>
      cases o with
      | none => rfl
      | some v =>
        simp only [fC]
        cases setT t v s1 h1 with
        | none => rfl
        | some s2 => (simp only [conT]; all_goals (cases body s2 h1 <;> rfl))
theorem u_fA (n0 : Nat) (live : List Nat) (it : It') (t : Tg) (body : Ds) (f i : Nat) (s : Sg) (h : Hs)  : fA (some (s, h)) n0 live it t body f i = fB (nxt it i h) n0 live it t body f i s h := rfl
theorem u_fB0 (n0 : Nat) (live : List Nat) (it : It') (t : Tg) (body : Ds) (f i : Nat) (s : Sg) (h : Hs)  : fB (some none) n0 live it t body f i s h = .nx s h := rfl
theorem u_fB1 (v : Va) (n0 : Nat) (live : List Nat) (it : It') (t : Tg) (body : Ds) (f i : Nat) (s : Sg) (h : Hs)  : fB (some (some v)) n0 live it t body f i s h = fC (setT t v s h) n0 live it t body f i h := rfl
theorem u_fC (n0 : Nat) (live : List Nat) (it : It') (t : Tg) (body : Ds) (f i : Nat) (s : Sg) (h : Hs)  : fC (some s) n0 live it t body f i h = conT n0 live it t body f i (body s h) := rfl
theorem u_con1 (n0 : Nat) (live : List Nat) (it : It') (t : Tg) (body : Ds) (f i : Nat) (s : Sg) (h : Hs)  : conT n0 live it t body f i (.nx s h) = forC n0 live it t body f (i + 1) s h := rfl
theorem u_con2 (n0 : Nat) (live : List Nat) (it : It') (t : Tg) (body : Ds) (f i : Nat) (s : Sg) (h : Hs)  : conT n0 live it t body f i (.ct s h) = forC n0 live it t body f (i + 1) s h := rfl
theorem u_con3 (n0 : Nat) (live : List Nat) (it : It') (t : Tg) (body : Ds) (f i : Nat) (s : Sg) (h : Hs)  : conT n0 live it t body f i (.bk s h) = .nx s h := rfl
theorem u_con4 (v : Va) (n0 : Nat) (live : List Nat) (it : It') (t : Tg) (body : Ds) (f i : Nat) (s : Sg) (h : Hs)  : conT n0 live it t body f i (.rt v h) = .rt v h := rfl
theorem u_M (T : String) (k : KM) (fo : De) (fa : Da) (s : Sg) (h : Hs)  : dM T k fo fa s h = me1 T k (fo s h) fa s := by
  unfold dM me1
  cases fo s h with
  | no => rfl
  | ex c h1 => rfl
  | ok x h1 => simp only [ev_bind_ok]; cases isTy T x h1 <;> rfl
theorem u_me1 (T : String) (k : KM) (x : Va) (fa : Da) (s : Sg) (h : Hs)  : me1 T k (.ok x h) fa s = me2 (isTy T x h) k x fa s h := rfl
theorem u_me2 (k : KM) (x : Va) (fa : Da) (s : Sg) (h : Hs)  : me2 true k x fa s h = me3 k x (fa s h) := rfl
theorem u_me3 (k : KM) (x : Va) (xs : List Va) (h : Hs) : me3 k x (.ok xs h) = lft (k x xs h) := rfl
theorem u_M2 (T : String) (k : KM) (T2 : String) (k2 : KM) (fo : De) (fa : Da) (s : Sg) (h : Hs)  : dM2 T k T2 k2 fo fa s h = mm1 T k T2 k2 (fo s h) fa s := by
  unfold dM2 mm1
  cases fo s h with
  | no => rfl
  | ex c h1 => rfl
  | ok x h1 =>
    simp only [ev_bind_ok]
    cases isTy T x h1 with
    | true => rfl
    | false => simp only [me2]; cases isTy T2 x h1 <;> rfl
theorem u_mm1t (k : KM) (T2 : String) (k2 : KM) (xs : List Va) (fa : Da) (s : Sg) (h : Hs)  : mm1 "tuple" k T2 k2 (.ok (.tup xs) h) fa s = me3 k (.tup xs) (fa s h) := rfl
theorem u_rev (f : De) (s : Sg) (h : Hs)  : dRev f s h = rv1 (f s h) := rfl
theorem u_rv1t (xs : List Va) (h : Hs) : rv1 (.ok (.tup xs) h) = .ok (.tup xs.reverse) h := rfl
theorem u_rv1r (r : Nat) (h : Hs) : rv1 (.ok (.ref r) h) = rvL h[r]? h := rfl
theorem u_rvL (xs : List Va) (h : Hs) : rvL (some (.lst xs)) h = .ok (.ref h.length) (h ++ [.lst xs.reverse]) := rfl
theorem u_newD (s : Sg) (h : Hs)  : dNewD s h = .ok (.ref h.length) (h ++ [.dK []]) := rfl
theorem u_ixo (v : Va) (h : Hs) (z : Option (Va × Hs)) : ixo (some v) h z = some (v, h) := rfl
theorem u_ixT (xs : List Va) (i : Int) (h : Hs) : kIxU (.tup xs) (.int i) h = ixo (L2.atI xs i) h none := by unfold kIxU kIx kDg ixo; simp only; cases L2.atI xs i <;> rfl
theorem u_ixR (r : Nat) (i : Int) (h : Hs) : kIxU (.ref r) (.int i) h = ixR h[r]? i h := by
  unfold kIxU kIx kDg ixR
  simp only
  cases h[r]? with
  | none => rfl
  | some o =>
    cases o with
    | lst xs => simp only [ixo]; cases L2.atI xs i <;> rfl
    | dK xs => simp only [ixo, Wr.keyOf, Option.bind_some]; cases gK xs (.inl i) <;> rfl
    | dF xs => simp only [ixo, Wr.keyOf, Option.bind_some]; cases gK xs (.inl i) <;> rfl
    | dT xs => rfl
    | dU xs => rfl
    | ins c xs => rfl
theorem u_ixRl (xs : List Va) (i : Int) (h : Hs) : ixR (some (.lst xs)) i h = ixo (L2.atI xs i) h none := rfl
theorem u_ixRd (kvs : List (Key × Va)) (i : Int) (h : Hs) : ixR (some (.dK kvs)) i h = ixo (gK kvs (.inl i)) h none := rfl
theorem u_ixRf (kvs : List (Key × Va)) (i : Int) (h : Hs) : ixR (some (.dF kvs)) i h = ixo (gK kvs (.inl i)) h none := rfl
theorem u_gK1 (i j : Int) (v : Va) (l : List (Key × Va)) : gK ((.inl i, v) :: l) (.inl j) = bif decide (i = j) then some v else gK l (.inl j) := by
  show (if decide ((Sum.inl i : Key) = Sum.inl j) = true then some v else gK l (.inl j)) = _
  by_cases e : i = j
  · subst e; simp
  · have e2 : ¬ (Sum.inl i : Key) = Sum.inl j := fun q => e (Sum.inl.inj q)
    rw [decide_eq_false e, decide_eq_false e2]; rfl
theorem u_atI {α : Type} (xs : List α) (i : Int) : L2.atI xs i = (L2.ixN xs.length i).bind fun j => xs[j]? := rfl
theorem u_ixN (n : Nat) (i : Int) : L2.ixN n i = if 0 ≤ i then (if i < n then some i.toNat else none) else if -(n : Int) ≤ i then some (i + n).toNat else none := rfl
theorem u_kLt (i j : Int) (h : Hs) : kLt (.int i) (.int j) h = some (.bl (decide (i < j)), h) := rfl
theorem u_kLe (i j : Int) (h : Hs) : kLe (.int i) (.int j) h = some (.bl (decide (i ≤ j)), h) := rfl
theorem u_kGt (i j : Int) (h : Hs) : kGt (.int i) (.int j) h = some (.bl (decide (j < i)), h) := rfl
theorem u_kGe (i j : Int) (h : Hs) : kGe (.int i) (.int j) h = some (.bl (decide (j ≤ i)), h) := rfl
theorem u_kSub (i j : Int) (h : Hs) : kSub (.int i) (.int j) h = some (.int (i - j), h) := rfl
theorem u_kAdd (i j : Int) (h : Hs) : kAdd (.int i) (.int j) h = some (.int (i + j), h) := rfl
theorem u_mul (i j : Int) (h : Hs) (hi : -18446744073709551616 < i ∧ i < 18446744073709551616) : kMul (.int i) (.int j) h = some (.int (i * j), h) := ev_mul_l h i j hi.1 hi.2
theorem u_mulr (i j : Int) (h : Hs) (hj : -18446744073709551616 < j ∧ j < 18446744073709551616) : kMul (.int i) (.int j) h = some (.int (i * j), h) := ev_mul_r h i j hj.1 hj.2
theorem u_addT (xs ys : List Va) (h : Hs) (hl : xs.length + ys.length ≤ 16777216) : kAdd (.tup xs) (.tup ys) h = some (.tup (xs ++ ys), h) := by show (if okN (xs.length + ys.length) then _ else _) = _; rw [if_pos]; simpa using hl
theorem u_addL (r q : Nat) (h : Hs) : kAdd (.ref r) (.ref q) h = addL h[r]? h[q]? h := rfl
theorem u_addL1 (xs ys : List Va) (h : Hs) (hl : xs.length + ys.length ≤ 16777216) : addL (some (.lst xs)) (some (.lst ys)) h = some (.ref h.length, h ++ [.lst (xs ++ ys)]) := by show (if okN (xs.length + ys.length) then _ else _) = _; rw [if_pos]; simpa using hl
theorem u_eq (x y : Va) (h : Hs) : kEq x y h = eq2 (toD h 9 x) (toD h 9 y) h true := rfl
theorem u_ne (x y : Va) (h : Hs) : kNe x y h = eq2 (toD h 9 x) (toD h 9 y) h false := rfl
theorem u_eq2t (d e : PyData) (h : Hs) : eq2 (some d) (some e) h true = some (.bl (PyData.eqv d e), h) := rfl
theorem u_eq2f (d e : PyData) (h : Hs) : eq2 (some d) (some e) h false = some (.bl (!PyData.eqv d e), h) := rfl
theorem u_tdR (h : Hs) (n i : Nat) : toD h (n + 1) (.ref i) = tdL h[i]? h n := rfl
theorem u_tdL (xs : List Va) (h : Hs) (n : Nat) : tdL (some (.lst xs)) h n = tdLL (tdS h n xs) := rfl
theorem u_tdLL (l : List PyData) : tdLL (some l) = some (.list l) := rfl
theorem u_tdTT (l : List PyData) : tdTT (some l) = some (.tuple l) := rfl
theorem u_tdT (h : Hs) (n : Nat) (xs : List Va) : toD h (n + 1) (.tup xs) = tdTT (tdS h n xs) := rfl
theorem u_tdS0 (h : Hs) (n : Nat) : tdS h n [] = some [] := rfl
theorem u_tdS1 (h : Hs) (n : Nat) (x : Va) (xs : List Va) : tdS h n (x :: xs) = tdC (toD h n x) (tdS h n xs) := by unfold tdS tdC; rw [mapO]; cases toD h n x with | none => rfl | some y => (simp only []; cases mapO (toD h n) xs <;> rfl)
theorem u_tdC (y : PyData) (ys : List PyData) : tdC (some y) (some ys) = some (y :: ys) := rfl
theorem u_eqvB (a b : Bool) : PyData.eqv (.bool a) (.bool b) = (a == b) := by simp [PyData.eqv]
theorem u_eqvN  : PyData.eqv .none .none = true := by simp [PyData.eqv]
theorem u_eqvNI (i : Int) : PyData.eqv .none (.int i) = false := by simp [PyData.eqv]
theorem u_eqvIN (i : Int) : PyData.eqv (.int i) .none = false := by simp [PyData.eqv]
theorem u_eqvNT (l : List PyData) : PyData.eqv .none (.tuple l) = false := by simp [PyData.eqv]
theorem u_eqvTN (l : List PyData) : PyData.eqv (.tuple l) .none = false := by simp [PyData.eqv]
theorem u_eqv01 (x : PyData) (l : List PyData) : PyData.eqvAll [] (x :: l) = false := by simp [PyData.eqvAll]
theorem u_eqv10 (x : PyData) (l : List PyData) : PyData.eqvAll (x :: l) [] = false := by simp [PyData.eqvAll]
theorem u_in (x y : Va) (h : Hs) : kIn x y h = in2 (toD h 9 x) (toD h 9 y) h true := by
  unfold kIn inD in2
  cases toD h 9 x with
  | none => rfl
  | some d =>
    simp only
    cases toD h 9 y with
    | none => rfl
    | some e => cases e <;> rfl
theorem u_notin (x y : Va) (h : Hs) : kNotIn x y h = in2 (toD h 9 x) (toD h 9 y) h false := by
  unfold kNotIn inD in2
  cases toD h 9 x with
  | none => rfl
  | some d =>
    simp only
    cases toD h 9 y with
    | none => rfl
    | some e => cases e <;> rfl
theorem u_in2lt (d : PyData) (ds : List PyData) (h : Hs) : in2 (some d) (some (.list ds)) h true = some (.bl (anyE d ds), h) := by rw [← anyE_is]; rfl
theorem u_in2lf (d : PyData) (ds : List PyData) (h : Hs) : in2 (some d) (some (.list ds)) h false = some (.bl (!anyE d ds), h) := by rw [← anyE_is]; rfl
theorem u_in2tt (d : PyData) (ds : List PyData) (h : Hs) : in2 (some d) (some (.tuple ds)) h true = some (.bl (anyE d ds), h) := by rw [← anyE_is]; rfl
theorem u_in2tf (d : PyData) (ds : List PyData) (h : Hs) : in2 (some d) (some (.tuple ds)) h false = some (.bl (!anyE d ds), h) := by rw [← anyE_is]; rfl
theorem u_any0 (d : PyData) : anyE d [] = false := rfl
theorem u_any1 (d x : PyData) (l : List PyData) : anyE d (x :: l) = (PyData.eqv x d || anyE d l) := rfl
theorem u_lenTup (xs : List Va) (h : Hs) : kLen [.tup xs] h = some (.int xs.length, h) := rfl
theorem u_lenRef (r : Nat) (h : Hs) : kLen [.ref r] h = lenR h[r]? h := rfl
theorem u_lenR1 (ys : List Va) (h : Hs) : lenR (some (.lst ys)) h = some (.int ys.length, h) := rfl
theorem u_lst? (ys : List Va) : lst? (some (.lst ys)) = some ys := rfl
theorem u_tupT (ys : List Va) (h : Hs) : kTuple [.tup ys] h = some (.tup ys, h) := rfl
theorem u_tupR (r : Nat) (h : Hs) : kTuple [.ref r] h = tpo (lst? h[r]?) h := rfl
theorem u_tpo (ys : List Va) (h : Hs) : tpo (some ys) h = some (.tup ys, h) := rfl
theorem u_listT (ys : List Va) (h : Hs) : kList [.tup ys] h = some (.ref h.length, h ++ [.lst ys]) := rfl
theorem u_listR (r : Nat) (h : Hs) : kList [.ref r] h = lso (lst? h[r]?) h := rfl
theorem u_lso (ys : List Va) (h : Hs) : lso (some ys) h = some (.ref h.length, h ++ [.lst ys]) := rfl
theorem u_intB (b : Bool) (h : Hs) : kInt [.bl b] h = some (.int (bif b then 1 else 0), h) := by cases b <;> rfl
theorem u_min2 (i j : Int) (h : Hs) : kMin [.int i, .int j] h = some (.int (bif decide (j < i) then j else i), h) := by show some (Va.int (if j < i then j else i), h) = _; rw [cond_eq_ite]; simp
theorem u_ints? (l : List Va) : ints? (some l) = intsV l := rfl
theorem u_ints0  : intsV [] = some [] := rfl
theorem u_ints1 (i : Int) (l : List Va) : intsV (.int i :: l) = icn i (intsV l) := by unfold icn; rw [ev_ints1]
theorem u_icn (i : Int) (l : List Int) : icn i (some l) = some (i :: l) := rfl
theorem u_minR (r : Nat) (h : Hs) : kMin [.ref r] h = min? (ints? (lst? h[r]?)) h := by
  unfold kMin ints? lst? min?
  show (lstArg [Va.ref r] h).bind _ = _
  rw [ev_lstArg]
  cases h[r]? with
  | none => rfl
  | some o => cases o <;> rfl
theorem u_min? (m : Int) (t : List Int) (h : Hs) : min? (some (m :: t)) h = some (.int (minI m t), h) := rfl
theorem u_maxR (r : Nat) (h : Hs) : kMax [.ref r] h = max? (ints? (lst? h[r]?)) h := by
  unfold kMax ints? lst? max?
  show (lstArg [Va.ref r] h).bind _ = _
  rw [ev_lstArg]
  cases h[r]? with
  | none => rfl
  | some o => cases o <;> rfl
theorem u_max? (m : Int) (t : List Int) (h : Hs) : max? (some (m :: t)) h = some (.int (maxI m t), h) := rfl
theorem u_srtR (r : Nat) (h : Hs) : kSortA [.ref r] h = srt? (ints? (lst? h[r]?)) h := by
  show kSortI [.ref r] h = _
  unfold kSortI ints? lst? srt?
  rw [ev_lstArg]
  cases h[r]? with
  | none => rfl
  | some o => cases o <;> rfl
theorem u_srtT (ys : List Va) (h : Hs) : kSortA [.tup ys] h = srt? (intsV ys) h := rfl
theorem u_srt? (ns : List Int) (h : Hs) : srt? (some ns) h = some (.ref h.length, h ++ [.lst ((sortI ns).map Va.int)]) := rfl
theorem u_sruR (r : Nat) (h : Hs) : kSortU [.ref r] h = sru? (ints? (lst? h[r]?)) h := by
  unfold kSortU ints? lst? sru?
  rw [ev_lstArg]
  cases h[r]? with
  | none => rfl
  | some o => cases o <;> rfl
theorem u_sru? (ns : List Int) (h : Hs) (hl : ns.length < 64) : sru? (some ns) h = some (.ref h.length, h ++ [.lst ((sortU ns).map Va.int)]) := by show (if decide (ns.length < 64) = true then _ else _) = _; rw [if_pos]; simpa using hl
theorem u_sI0  : sortI [] = [] := rfl
theorem u_sI1 (x : Int) (t : List Int) : sortI (x :: t) = insI x (sortI t) := rfl
theorem u_iI0 (x : Int) : insI x [] = [x] := rfl
theorem u_iI1 (x y : Int) (t : List Int) : insI x (y :: t) = bif decide (x ≤ y) then x :: y :: t else y :: insI x t := by rw [cond_eq_ite]; rfl
theorem u_sU0  : sortU [] = [] := rfl
theorem u_sU1 (x : Int) (t : List Int) : sortU (x :: t) = insU x (sortU t) := rfl
theorem u_iU0 (x : Int) : insU x [] = [x] := rfl
theorem u_iU1 (x y : Int) (t : List Int) : insU x (y :: t) = bif decide (x < y) then x :: y :: t else bif decide (x = y) then y :: t else y :: insU x t := by rw [cond_eq_ite, cond_eq_ite]; rfl
theorem u_sumR (r : Nat) (h : Hs) : kSumA [.ref r] h = sum? (ints? (lst? h[r]?)) h := by
  rw [ev_sum]
  unfold ints? lst? sum?
  rw [ev_lstArg]
  cases h[r]? with
  | none => rfl
  | some o => cases o <;> rfl
theorem u_sumT (ys : List Va) (h : Hs) : kSumA [.tup ys] h = sum? (intsV ys) h := rfl
theorem u_sum? (ns : List Int) (h : Hs) : sum? (some ns) h = some (.int ns.sum, h) := rfl
theorem u_bls? (l : List Va) : bls? (some l) = bls l := rfl
theorem u_bls0  : bls [] = some [] := rfl
theorem u_bls1 (b : Bool) (l : List Va) : bls (.bl b :: l) = bcn b (bls l) := by unfold bcn; rw [ev_bls1]
theorem u_bcn (b : Bool) (l : List Bool) : bcn b (some l) = some (b :: l) := rfl
theorem u_allR (r : Nat) (h : Hs) : kAll [.ref r] h = all? (bls? (lst? h[r]?)) h := by
  unfold kAll bls? lst? all?
  rw [ev_lstArg]
  cases h[r]? with
  | none => rfl
  | some o =>
    cases o with
    | lst ys =>
      simp only [Option.bind_some]
      cases bls ys with
      | none => rfl
      | some bs => simp [← allB_is]
    | _ => rfl
theorem u_anyR (r : Nat) (h : Hs) : kAny [.ref r] h = any? (bls? (lst? h[r]?)) h := by
  unfold kAny bls? lst? any?
  rw [ev_lstArg]
  cases h[r]? with
  | none => rfl
  | some o =>
    cases o with
    | lst ys =>
      simp only [Option.bind_some]
      cases bls ys with
      | none => rfl
      | some bs => simp [← orB_is]
    | _ => rfl
theorem u_all? (bs : List Bool) (h : Hs) : all? (some bs) h = some (.bl (allB bs), h) := rfl
theorem u_any? (bs : List Bool) (h : Hs) : any? (some bs) h = some (.bl (orB bs), h) := rfl
theorem u_aB0  : allB [] = true := rfl
theorem u_aB1 (b : Bool) (l : List Bool) : allB (b :: l) = (b && allB l) := rfl
theorem u_oB0  : orB [] = false := rfl
theorem u_oB1 (b : Bool) (l : List Bool) : orB (b :: l) = (b || orB l) := rfl
theorem u_app (r : Nat) (y : Va) (h : Hs) : kAppend (.ref r) [y] h = apL h[r]? r y h := rfl
theorem u_apL (ys : List Va) (r : Nat) (y : Va) (h : Hs) (hl : ys.length + 1 ≤ 16777216) : apL (some (.lst ys)) r y h = some (.non, h.set r (.lst (ys ++ [y]))) := by show (if okN (ys.length + 1) = true then _ else _) = _; rw [if_pos]; simpa using hl
theorem u_ext (r q : Nat) (h : Hs) : kExtend (.ref r) [.ref q] h = exL h[r]? h[q]? r h := rfl
theorem u_exL (ys zs : List Va) (r : Nat) (h : Hs) (hl : ys.length + zs.length ≤ 16777216) : exL (some (.lst ys)) (some (.lst zs)) r h = some (.non, h.set r (.lst (ys ++ zs))) := by show (if okN (ys.length + zs.length) = true then _ else _) = _; rw [if_pos]; simpa using hl
theorem u_isL (r : Nat) (h : Hs) : isTy "list" (.ref r) h = isL h[r]? := by
  show (match h[r]? with
    | some (.lst _) => "list" == "list"
    | _ => false) = isL h[r]?
  cases h[r]? with
  | none => rfl
  | some o => cases o <;> rfl
theorem u_isL1 (xs : List Va) : isL (some (.lst xs)) = true := rfl
theorem u_kput (r : Nat) (i : Int) (v : Va) (h : Hs) : kPut (.ref r) (.int i) v h = puL h[r]? r i v h := by
  unfold kPut kPutL kPutD puL
  simp only
  cases h[r]? with
  | none => rfl
  | some o =>
    cases o with
    | lst xs => simp only; cases L2.ixN xs.length i <;> rfl
    | dK xs => rfl
    | dT xs => rfl
    | dU xs => rfl
    | dF xs => rfl
    | ins c xs => rfl
theorem u_puL (xs : List Va) (r : Nat) (i : Int) (v : Va) (h : Hs) : puL (some (.lst xs)) r i v h = puN (L2.ixN xs.length i) xs r v h := rfl
theorem u_puN (j : Nat) (xs : List Va) (r : Nat) (v : Va) (h : Hs) : puN (some j) xs r v h = some (h.set r (.lst (xs.set j v))) := rfl
theorem u_puD (kvs : List (Key × Va)) (r : Nat) (i : Int) (v : Va) (h : Hs) (hl : kvs.length < 1000) : puL (some (.dK kvs)) r i v h = some (h.set r (.dK (pk2 kvs i v))) := by show (if decide (kvs.length < 1000) = true then _ else _) = _; rw [if_pos (by simpa using hl), pk2_is]
theorem u_pk2 (kvs : List (Key × Va)) (i : Int) (v : Va) : pk2 kvs i v = bif hasK i kvs then repK i v kvs else kvs ++ [(.inl i, v)] := rfl
theorem u_hasK0 (i : Int) : hasK i [] = false := rfl
theorem u_hasK1 (i j : Int) (w : Va) (l : List (Key × Va)) : hasK i ((.inl j, w) :: l) = (decide (j = i) || hasK i l) := rfl
theorem u_repK0 (i : Int) (v : Va) : repK i v [] = [] := rfl
theorem u_repK1 (i j : Int) (v w : Va) (l : List (Key × Va)) : repK i v ((.inl j, w) :: l) = (.inl j, bif decide (j = i) then v else w) :: repK i v l := rfl
theorem u_neg (f : De) (s : Sg) (h : Hs)  : dNeg f s h = ng1 (f s h) := rfl
theorem u_ng1 (i : Int) (h : Hs) : ng1 (.ok (.int i) h) = .ok (.int (-i)) h := rfl
theorem u_whl (c : Dt) (body : Ds) (f : Nat) (s : Sg) (h : Hs)  : whileD c body (f + 1) s h = wh1 (c s h) c body f s := by
  unfold whileD wh1
  cases c s h with
  | no => rfl
  | ex k h1 => rfl
  | ok b h1 =>
    cases b with
    | false => rfl
    | true => (simp only [wh2]; all_goals (cases body s h1 <;> rfl))
theorem u_wh1t (c : Dt) (body : Ds) (f : Nat) (s : Sg) (h : Hs)  : wh1 (.ok true h) c body f s = wh2 (body s h) c body f := rfl
theorem u_wh1f (c : Dt) (body : Ds) (f : Nat) (s : Sg) (h : Hs)  : wh1 (.ok false h) c body f s = .nx s h := rfl
theorem u_wh2 (c : Dt) (body : Ds) (f : Nat) (s : Sg) (h : Hs)  : wh2 (.nx s h) c body f = whileD c body f s h := rfl
theorem u_lock (i : Nat) (f : De) (s : Sg) (h : Hs)  : dLock i f s h = lkA (dVar i s h) f s := by
  unfold dLock dVar lkA
  cases s[i]? with
  | none => rfl
  | some o =>
    cases o with
    | none => rfl
    | some v =>
      cases v with
      | ref r =>
        simp only [lkB]
        cases h[r]? with
        | none => rfl
        | some o =>
          cases o with
          | dK kvs =>
            simp only [lkC]
            cases f s (h.set r (.dF kvs)) with
            | ok v h3 =>
              simp only [lkD]
              all_goals (cases h3[r]? with
                | none => rfl
                | some o => cases o <;> rfl)
            | ex c h3 => rfl
            | no => rfl
          | _ => rfl
      | _ => rfl
theorem u_lkA (r : Nat) (f : De) (s : Sg) (h : Hs)  : lkA (.ok (.ref r) h) f s = lkB h[r]? r f s h := rfl
theorem u_lkB (kvs : List (Key × Va)) (r : Nat) (f : De) (s : Sg) (h : Hs)  : lkB (some (.dK kvs)) r f s h = lkC r (f s (h.set r (.dF kvs))) := rfl
theorem u_lkC (r : Nat) (v : Va) (h : Hs) : lkC r (.ok v h) = lkD h[r]? r v h := rfl
theorem u_lkD (kvs : List (Key × Va)) (r : Nat) (v : Va) (h : Hs) : lkD (some (.dF kvs)) r v h = .ok v (h.set r (.dK kvs)) := rfl
theorem u_keys (f : De) (s : Sg) (h : Hs)  : dKeys f s h = ke1 (f s h) := rfl
theorem u_ke1 (r : Nat) (h : Hs) : ke1 (.ok (.ref r) h) = ke2 h[r]? h := by
  show keysIt (.ref r) h = _
  unfold keysIt ke2 kys
  simp only
  all_goals (cases h[r]? with
    | none => rfl
    | some o => cases o <;> rfl)
theorem u_ke2 (kvs : List (Key × Va)) (h : Hs) : ke2 (some (.dF kvs)) h = .ok (.tup (kys kvs)) h := rfl
theorem u_kys0  : kys [] = [] := rfl
theorem u_kys1 (i : Int) (v : Va) (l : List (Key × Va)) : kys ((.inl i, v) :: l) = .int i :: kys l := rfl
theorem u_dt {p : Prop} [Decidable p] (hp : p) : decide p = true := decide_eq_true hp
theorem u_df {p : Prop} [Decidable p] (hp : ¬ p) : decide p = false := decide_eq_false hp
theorem u_ct1 {α : Type} (x y : α) : (bif true then x else y) = x := rfl
theorem u_ct2 {α : Type} (x y : α) : (bif false then x else y) = y := rfl
theorem u_g0 {α : Type} (x : α) (l : List α) : (x :: l)[0]? = some x := rfl
theorem u_gS {α : Type} (x : α) (l : List α) (n : Nat) : (x :: l)[n + 1]? = l[n]? := rfl
theorem u_gN {α : Type} (n : Nat) : ([] : List α)[n]? = none := rfl
def CleanOK (n0 : Nat) (live : List Nat) (s : Sg) (h : Hs) : Prop := cleanS n0 live s h = some (maskS live 0 s, h.take n0)
theorem clean_flat (n0 : Nat) (live : List Nat) (s : Sg) (h : Hs) (e : CleanOK n0 live s h) : cleanS n0 live s h = some (maskS live 0 s, h.take n0) := e
end Wr
set_option Elab.async false
set_option linter.all false
set_option maxRecDepth 100000
set_option maxHeartbeats 4000000
set_option autoImplicit false
namespace Wr
open PySem PySem.Spec PyProof.Rows L2
section
variable {f : Nat → Option Nat}
mutual
theorem ren_low : ∀ v : Va, (∀ x ∈ refsV v, f x = some x) → ren f v = some v
  | .ref i, h => by simp [ren, h i (by simp [refsV])]
  | .tup xs, h => by simp [ren, rens_low xs (by simpa [refsV] using h)]
  | .non, _ => rfl
  | .bl _, _ => rfl
  | .int _, _ => rfl
  | .str _, _ => rfl
  | .ty _, _ => rfl
  | .gl _, _ => rfl
  | .scr, _ => rfl
  | .exc _, _ => rfl
theorem rens_low : ∀ v : List Va, (∀ x ∈ refsVs v, f x = some x) → rens f v = some v
  | [], _ => rfl
  | x :: xs, h => by
    simp only [refsVs, List.mem_append] at h
    simp [rens, ren_low x fun y hy => h y (.inl hy), rens_low xs fun y hy => h y (.inr hy)]
end
theorem renK_low {κ : Type} : ∀ v : List (κ × Va), (∀ x ∈ refsK v, f x = some x) → renK f v = some v
  | [], _ => rfl
  | (k, x) :: xs, h => by
    simp only [refsK, List.mem_append] at h
    simp [renK, ren_low x fun y hy => h y (.inl hy), renK_low xs fun y hy => h y (.inr hy)]
theorem renO_low (o : Ob) (h : ∀ x ∈ refsO o, f x = some x) : renO f o = some o := by
  cases o with
  | lst xs => simp [renO, rens_low xs h]
  | dK xs => simp [renO, renK_low xs h]
  | dT xs => simp [renO, renK_low xs h]
  | dU xs => simp [renO, renK_low xs h]
  | dF xs => simp [renO, renK_low xs h]
  | ins c xs => simp [renO, renK_low xs h]
theorem renSl_low : ∀ s : Sg, (∀ x ∈ refsS s, f x = some x) → renSl f s = some s
  | [], _ => rfl
  | none :: t, h => by simp [renSl, renSl_low t (by simpa [refsS] using h)]
  | some v :: t, h => by
    simp only [refsS, List.mem_append] at h
    simp [renSl, ren_low v fun y hy => h y (.inl hy), renSl_low t fun y hy => h y (.inr hy)]
end
theorem nil_low {P : Nat → Prop} {l : List Nat} (h : l = []) : ∀ x ∈ l, P x := by subst h; intro x hx; cases hx
theorem reach_nil (n : Nat) (h : Hs) (acc : List Nat) : reach n h [] acc = acc := by cases n <;> rfl
theorem refs_app : ∀ a b : List Va, refsVs (a ++ b) = refsVs a ++ refsVs b
  | [], b => rfl
  | x :: a, b => by simp [refsVs, refs_app a b]
theorem compact_val {h : Hs} {v : Va} (hv : refsV v = []) : compact 0 (.ok v h) = .ok v [] := by
  unfold compact
  by_cases hl : (h.length == 0) = true
  · simp only [hl, if_true]
    cases h with
    | nil => rfl
    | cons x t => simp at hl
  · simp only
    rw [if_neg hl]
    have hm : lastM 0 v h = [] := by simp [lastM, hv, reach_nil]
    simp [hm, nodupB, ren_low v (nil_low hv), selO]
theorem reach_low {n0 : Nat} {h : Hs} (hl : ∀ x ∈ (h.take n0).flatMap refsO, x < n0) : ∀ (f : Nat) (todo acc : List Nat), (∀ i ∈ todo, i < n0) → (∀ i ∈ acc, i < n0) → ∀ i ∈ reach f h todo acc, i < n0
  | 0, _, acc, _, ha => by simpa [reach] using ha
  | f + 1, [], acc, _, ha => by simpa [reach] using ha
  | f + 1, j :: t, acc, ht, ha => by
    simp only [reach]
    split
    · exact reach_low hl f t acc (fun i hi => ht i (List.mem_cons_of_mem _ hi)) ha
    · split
      · rename_i o ho
        refine reach_low hl f _ _ (fun i hi => ?_) (fun i hi => ?_)
        · rcases List.mem_append.mp hi with hi | hi
          · refine hl i (List.mem_flatMap.mpr ⟨o, ?_, hi⟩)
            have hj := ht j (List.mem_cons_self ..)
            refine List.mem_of_getElem? (i := j) ?_
            rw [List.getElem?_take, if_pos hj, ho]
          · exact ht i (List.mem_cons_of_mem _ hi)
        · rcases List.mem_append.mp hi with hi | hi
          · exact ha i hi
          · rw [List.mem_singleton.mp hi]; exact ht j (List.mem_cons_self ..)
      · exact reach_low hl f t acc (fun i hi => ht i (List.mem_cons_of_mem _ hi)) ha
theorem nodupB_of : ∀ {m : List Nat}, m.Nodup → nodupB m = true
  | [], _ => rfl
  | x :: t, h => by
    have h' := List.nodup_cons.mp h
    simp [nodupB, nodupB_of h'.2, h'.1]
theorem selO_app (m : List Nat) (hp : Hs) : ∀ (t : List Nat) (i : Nat) (hs : Hs) (o : Ob), selO m hp t = some hs → hp[i]? = some o → renO (idx m) o = some o → selO m hp (t ++ [i]) = some (hs ++ [o])
  | [], i, hs, o, h1, h2, h3 => by cases h1; simp [selO, h2, h3]
  | j :: t, i, hs, o, h1, h2, h3 => by
    simp only [selO] at h1
    split at h1
    · rename_i a ha
      split at h1
      · rename_i b hb
        split at h1
        · rename_i c hc
          cases h1
          simp [selO, ha, hb, selO_app m hp t i c o hc h2 h3]
        · cases h1
      · cases h1
    · cases h1
theorem selO_range (m : List Nat) (hp : Hs) : ∀ (n : Nat), n ≤ hp.length → (∀ o ∈ hp.take n, renO (idx m) o = some o) → selO m hp (List.range n) = some (hp.take n)
  | 0, _, _ => by simp [List.range, List.range.loop, selO]
  | n + 1, hl, ho => by
    have hn : n < hp.length := by omega
    rw [List.range_succ, List.take_succ_eq_append_getElem hn]
    refine selO_app m hp _ n _ _ (selO_range m hp n (by omega) fun o h => ho o ?_) (List.getElem?_eq_getElem hn) (ho _ ?_)
    · rw [List.take_succ_eq_append_getElem hn]; exact List.mem_append_left _ h
    · rw [List.take_succ_eq_append_getElem hn]; exact List.mem_append_right _ (List.mem_singleton.mpr rfl)
theorem clean_gen {n0 : Nat} {live : List Nat} {s : Sg} {h : Hs} (hl : n0 ≤ h.length) (hs : ∀ x ∈ refsS (maskS live 0 s), x < n0) (ho : ∀ x ∈ (h.take n0).flatMap refsO, x < n0) : CleanOK n0 live s h := by
  unfold CleanOK cleanS
  have hf : (reach 300 h (refsS (maskS live 0 s) ++ (h.take n0).flatMap refsO) []).filter (fun i => decide (n0 ≤ i)) = [] := by
    refine List.filter_eq_nil_iff.mpr fun i hi => ?_
    have := reach_low ho 300 _ [] (fun j hj => by
      rcases List.mem_append.mp hj with hj | hj
      · exact hs j hj
      · exact ho j hj) (by simp) i hi
    simp; omega
  have hid : ∀ x, x < n0 → idx (List.range n0) x = some x := fun x hx => idx_of List.nodup_range (by simp [hx])
  simp only [hf, List.append_nil]
  rw [if_pos (nodupB_of List.nodup_range), renSl_low _ fun x hx => hid x (hs x hx)]
  rw [selO_range _ _ n0 hl fun o hm => renO_low o fun x hx => hid x (ho x (List.mem_flatMap.mpr ⟨o, hm, hx⟩))]
end Wr
set_option Elab.async false
set_option linter.all false
set_option maxRecDepth 100000
set_option maxHeartbeats 4000000
set_option autoImplicit false
namespace Wr
open PySem PySem.Spec PyProof.Rows L2
def fl (b : Bool) (y : Va) (ys : List Va) : List Va := bif b then y :: ys else ys
def bN (b : Bool) : Nat := bif b then 1 else 0
end Wr
namespace Pg
open PySem PySem.Spec PyProof.Rows L2 Wr
def rowsL (rs : List (List Int)) : List Va := rs.map fun r => .tup (r.map Va.int)
def rows2 (t u x y : Int) : List (List Int) := if x = y then [[t, u]] else if y < x then [[t], [u]] else [[u], [t]]
def rows3 (x y z : Int) : List (List Int) :=
  if x = y then (if y = z then [[0, 1, 2]] else if z < y then [[0, 1], [2]] else [[2], [0, 1]])
  else if y < x then (if z = x then [[0, 2], [1]] else if z = y then [[0], [1, 2]] else if x < z then [[2], [0], [1]] else if z < y then [[0], [1], [2]] else [[0], [2], [1]])
  else (if z = x then [[1], [0, 2]] else if z = y then [[1, 2], [0]] else if y < z then [[2], [1], [0]] else if z < x then [[1], [0], [2]] else [[1], [2], [0]])
def mg01 (a b c d e f : Int) : Int := (a + (b + (e + 0))) - (c + (d + (f + 0)))
def mg02 (a b c d e f : Int) : Int := (a + (b + (c + 0))) - (d + (e + (f + 0)))
def mg10 (a b c d e f : Int) : Int := (c + (d + (f + 0))) - (a + (b + (e + 0)))
def mg12 (a b c d e f : Int) : Int := (a + (c + (d + 0))) - (b + (e + (f + 0)))
def mg20 (a b c d e f : Int) : Int := (d + (e + (f + 0))) - (a + (b + (c + 0)))
def mg21 (a b c d e f : Int) : Int := (b + (e + (f + 0))) - (a + (c + (d + 0)))
def du2 (x y : Int) : Int := 2 * ((bN (decide (0 < x)) + bN (decide (0 < y)) : Nat) : Int) + ((bN (decide (x = 0)) + bN (decide (y = 0)) : Nat) : Int)
def du1 (x : Int) : Int := 2 * ((bN (decide (0 < x)) : Nat) : Int) + ((bN (decide (x = 0)) : Nat) : Int)
def wo2 (x y : Int) : Int := minI x [y]
end Pg
set_option Elab.async false
set_option linter.all false
set_option maxRecDepth 100000
set_option maxHeartbeats 4000000
set_option autoImplicit false
namespace Pg
open PySem PySem.Spec PyProof.Rows L2 Wr
structure B6 where
  (a b c d e f : Int)
def B6.v (x : B6) : Va := Bk x.a x.b x.c x.d x.e x.f
def B6.ok (x : B6) : Prop := B99 x.a x.b x.c x.d x.e x.f
def B6.turn (x : B6) : B6 := ⟨x.f, x.d, x.e, x.b, x.c, x.a⟩
inductive Rl where
  | pts (p q r : Int) | du | wo | out (x : Rl) | bk (x : Rl) | th (x y : Rl)
def sPts : Va := .str (Str.mk #[112, 111, 105, 110, 116, 115])
def sDu : Va := .str (Str.mk #[100, 117, 101, 108, 115])
def sWo : Va := .str (Str.mk #[119, 111, 114, 115, 116])
def sOut : Va := .str (Str.mk #[111, 117, 116])
def sBk : Va := .str (Str.mk #[98, 97, 99, 107])
def sTh : Va := .str (Str.mk #[116, 104, 101, 110])
def Rl.v : Rl → Va
  | .pts p q r => .tup [sPts, .tup [.int p, .int q, .int r]]
  | .du => .tup [sDu]
  | .wo => .tup [sWo]
  | .out x => .tup [sOut, x.v]
  | .bk x => .tup [sBk, x.v]
  | .th x y => .tup [sTh, x.v, y.v]
def Rl.ok : Rl → Prop
  | .pts p q r => (0 ≤ p ∧ p ≤ 9) ∧ (0 ≤ q ∧ q ≤ 9) ∧ (0 ≤ r ∧ r ≤ 9)
  | .du => True
  | .wo => True
  | .out x => x.ok
  | .bk x => x.ok
  | .th x y => x.ok ∧ y.ok
def Rl.deep : Rl → Nat
  | .pts _ _ _ => 1
  | .du => 1
  | .wo => 1
  | .out x => x.deep + 1
  | .bk x => x.deep + 1
  | .th x y => max x.deep y.deep + 1
def Ls : Nat → List Int
  | 0 => [0, 1, 2]
  | 1 => [0, 1]
  | 2 => [0, 2]
  | 3 => [1, 2]
  | 4 => [0]
  | 5 => [1]
  | _ => [2]
def leafR (x : Rl) (b : B6) (k : Nat) : List (List Int) :=
  match k, x with
  | 0, .pts p q r => rows3 (p * b.a + p * b.b + q * b.c + r * b.d + q * b.e + r * b.f) (q * b.a + r * b.b + p * b.c + p * b.d + r * b.e + q * b.f) (r * b.a + q * b.b + r * b.c + q * b.d + p * b.e + p * b.f)
  | 1, .pts p q r => rows2 0 1 (p * b.a + p * b.b + r * b.c + r * b.d + p * b.e + r * b.f) (r * b.a + r * b.b + p * b.c + p * b.d + r * b.e + p * b.f)
  | 2, .pts p q r => rows2 0 2 (p * b.a + p * b.b + p * b.c + r * b.d + r * b.e + r * b.f) (r * b.a + r * b.b + r * b.c + p * b.d + p * b.e + p * b.f)
  | 3, .pts p q r => rows2 1 2 (p * b.a + r * b.b + p * b.c + p * b.d + r * b.e + r * b.f) (r * b.a + p * b.b + r * b.c + r * b.d + p * b.e + p * b.f)
  | 0, .du => rows3 (du2 (mg01 b.a b.b b.c b.d b.e b.f) (mg02 b.a b.b b.c b.d b.e b.f)) (du2 (mg10 b.a b.b b.c b.d b.e b.f) (mg12 b.a b.b b.c b.d b.e b.f)) (du2 (mg20 b.a b.b b.c b.d b.e b.f) (mg21 b.a b.b b.c b.d b.e b.f))
  | 1, .du => rows2 0 1 (du1 (mg01 b.a b.b b.c b.d b.e b.f)) (du1 (mg10 b.a b.b b.c b.d b.e b.f))
  | 2, .du => rows2 0 2 (du1 (mg02 b.a b.b b.c b.d b.e b.f)) (du1 (mg20 b.a b.b b.c b.d b.e b.f))
  | 3, .du => rows2 1 2 (du1 (mg12 b.a b.b b.c b.d b.e b.f)) (du1 (mg21 b.a b.b b.c b.d b.e b.f))
  | 0, .wo => rows3 (wo2 (mg01 b.a b.b b.c b.d b.e b.f) (mg02 b.a b.b b.c b.d b.e b.f)) (wo2 (mg10 b.a b.b b.c b.d b.e b.f) (mg12 b.a b.b b.c b.d b.e b.f)) (wo2 (mg20 b.a b.b b.c b.d b.e b.f) (mg21 b.a b.b b.c b.d b.e b.f))
  | 1, .wo => rows2 0 1 (minI (mg01 b.a b.b b.c b.d b.e b.f) []) (minI (mg10 b.a b.b b.c b.d b.e b.f) [])
  | 2, .wo => rows2 0 2 (minI (mg02 b.a b.b b.c b.d b.e b.f) []) (minI (mg20 b.a b.b b.c b.d b.e b.f) [])
  | 3, .wo => rows2 1 2 (minI (mg12 b.a b.b b.c b.d b.e b.f) []) (minI (mg21 b.a b.b b.c b.d b.e b.f) [])
  | k, _ => [Ls k]
theorem refs_intsF : ∀ l : List Int, refsVs (l.map Va.int) = []
  | [] => rfl
  | x :: l => by simp [refsVs, refsV, refs_intsF l]
theorem refs_rows : ∀ rs : List (List Int), refsVs (rowsL rs) = []
  | [] => rfl
  | r :: rs => by
    show refsV (.tup (r.map Va.int)) ++ refsVs (rowsL rs) = []
    rw [refs_rows rs]
    simp [refsV, refs_intsF]
theorem refs_rule : ∀ x : Rl, refsV x.v = []
  | .pts p q r => by simp [Rl.v, refsV, refsVs, sPts]
  | .du => by simp [Rl.v, refsV, refsVs, sDu]
  | .wo => by simp [Rl.v, refsV, refsVs, sWo]
  | .out x => by simp [Rl.v, refsV, refsVs, sOut, refs_rule x]
  | .bk x => by simp [Rl.v, refsV, refsVs, sBk, refs_rule x]
  | .th x y => by simp [Rl.v, refsV, refsVs, sTh, refs_rule x, refs_rule y]
theorem refs_book (b : B6) : refsV b.v = [] := rfl
end Pg
set_option Elab.async false
set_option linter.all false
set_option maxRecDepth 100000
set_option maxHeartbeats 4000000
set_option autoImplicit false
namespace Pg
open PySem PySem.Spec PyProof.Rows L2 Wr
def lastRow (rs : List (List Int)) : List Int := rs.getLast?.getD []
def codeOf (l : List Int) : Nat := if l = [0, 1, 2] then 0 else if l = [0, 1] then 1 else if l = [0, 2] then 2 else if l = [1, 2] then 3 else if l = [0] then 4 else if l = [1] then 5 else if l = [2] then 6 else 7
def leaveR (F : Nat → List (List Int)) : Nat → Nat → List (List Int)
  | 0, _ => []
  | n + 1, k => (if codeOf ((Ls k).filter fun t => !((lastRow (F k)).contains t)) < 7 then leaveR F n (codeOf ((Ls k).filter fun t => !((lastRow (F k)).contains t))) else []) ++ [lastRow (F k)]
def thnR (r1 r2 : List (List Int)) : List (List Int) := (r1.flatMap fun row => r2.map fun s => s.filter fun t => row.contains t).filter fun r => !r.isEmpty
def rk : Rl → B6 → Nat → List (List Int)
  | .pts p q r, b, k => leafR (.pts p q r) b k
  | .du, b, k => leafR .du b k
  | .wo, b, k => leafR .wo b k
  | .out x, b, k => leaveR (fun j => rk x b j) 3 k
  | .bk x, b, k => (rk x b.turn k).reverse
  | .th x y, b, k => thnR (rk x b k) (rk y b k)
def tab (r0 r1 r2 r3 : List (List Int)) : Nat → List (List Int)
  | 0 => r0
  | 1 => r1
  | 2 => r2
  | 3 => r3
  | 4 => [[0]]
  | 5 => [[1]]
  | 6 => [[2]]
  | _ => []
end Pg
set_option Elab.async false
set_option linter.all false
set_option maxRecDepth 100000
set_option maxHeartbeats 4000000
set_option autoImplicit false
namespace Pg
open PySem PySem.Spec PyProof.Rows L2 Wr
def isIn (row : List Int) : Va → Bool
  | .int t => row.contains t
  | _ => false
section
variable (F : Fn) (xv yv bv : Va) (k : Nat) (r1 r2 : List (List Int))
def cutV (row : List Int) : Va → Va
  | .tup xs => .tup (xs.filter (isIn row))
  | v => v
end
end Pg
set_option Elab.async false
set_option linter.all false
set_option maxRecDepth 100000
set_option maxHeartbeats 4000000
set_option autoImplicit false
namespace Pg
open PySem PySem.Spec PyProof.Rows L2 Wr
def Rl.d : Rl → PyData
  | .pts p q r => .tuple [.str (Str.mk #[112, 111, 105, 110, 116, 115]), .tuple [.int p, .int q, .int r]]
  | .du => .tuple [.str (Str.mk #[100, 117, 101, 108, 115])]
  | .wo => .tuple [.str (Str.mk #[119, 111, 114, 115, 116])]
  | .out x => .tuple [.str (Str.mk #[111, 117, 116]), x.d]
  | .bk x => .tuple [.str (Str.mk #[98, 97, 99, 107]), x.d]
  | .th x y => .tuple [.str (Str.mk #[116, 104, 101, 110]), x.d, y.d]
theorem flat_call {F : Fn} {args : List Va} {v : Va} (ha : refsVs args = []) (hv : refsV v = []) (e : F args [] = .ok v []) (h : Hs) : callD F args h = .ok v h :=
  callD_flat ha (rens_low args (nil_low ha)) (ren_low v (nil_low hv)) e
end Pg
set_option Elab.async false
set_option linter.all false
set_option maxRecDepth 100000
set_option maxHeartbeats 4000000
set_option autoImplicit false
namespace Wr
open PySem PySem.Spec PyProof.Rows L2
theorem u_ga (h l : Hs) (n : Nat) : (h ++ l)[h.length + n]? = l[n]? := by
  rw [List.getElem?_append_right (by omega)]
  congr 1
  omega
theorem u_ga0 (h l : Hs) : (h ++ l)[h.length]? = l[0]? := u_ga h l 0
theorem u_setTR (is : List Nat) (r : Nat) (s : Sg) (h : Hs) : setT (.tp is) (.ref r) s h = setR h[r]? is s := by
  unfold setT setR
  rfl
theorem u_setR (is : List Nat) (xs : List Va) (s : Sg) : setR (some (.lst xs)) is s = setEach is xs s := rfl
theorem u_sE0 (s : Sg) : setEach [] [] s = some s := rfl
theorem u_sE1 (i : Nat) (is : List Nat) (x : Va) (xs : List Va) (s : Sg) : setEach (i :: is) (x :: xs) s = setEach is xs (s.set i (some x)) := rfl
theorem u_par (i j : Nat) (f : Da) (s : Sg) (h : Hs) : dPar [i, j] f s h = pa1 [i, j] (f s h) s := rfl
theorem u_pa1 (i j : Nat) (x y : Va) (s : Sg) (h : Hs) : pa1 [i, j] (.ok [x, y] h) s = .nx ((s.set i (some x)).set j (some y)) h := rfl
theorem u_isnot1 (i : Int) (h : Hs) : kIsNot (.int i) .non h = some (.bl true, h) := rfl
theorem u_isnot2 (h : Hs) : kIsNot .non .non h = some (.bl false, h) := rfl
end Wr
namespace Pg
open PySem PySem.Spec PyProof.Rows L2 Wr
end Pg
set_option Elab.async false
set_option linter.all false
set_option maxRecDepth 100000
set_option maxHeartbeats 4000000
set_option autoImplicit false
namespace Pg
open PySem PySem.Spec PyProof.Rows L2 Wr
end Pg
set_option Elab.async false
set_option linter.all false
set_option maxRecDepth 100000
set_option maxHeartbeats 4000000
set_option autoImplicit false
namespace Wr
open PySem PySem.Spec PyProof.Rows L2
theorem u_mod (i j : Int) (h : Hs) (hj : 0 < j) : kMod (.int i) (.int j) h = some (.int (i % j), h) := by
  unfold kMod
  simp only
  rw [if_pos (decide_eq_true hj)]
end Wr
namespace Pg
open PySem PySem.Spec PyProof.Rows L2 Wr
/-- a rule of this depth at most is drawn at this place, whatever is about -/
def Drawn (ns : List Int) (at_ : Int) (d : Nat) : Prop := ∃ x : Rl, x.ok ∧ x.deep ≤ d ∧ ∀ m, d ≤ m → _law_rule ns m [.scr, .int at_, .int d] [] = .ok x.v []
theorem Drawn.call {ns : List Int} {at_ : Int} {d : Nat} (h : Drawn ns at_ d) : ∃ x : Rl, x.ok ∧ x.deep ≤ d ∧ ∀ m, d ≤ m → ∀ h, callD (_law_rule ns m) [.scr, .int at_, .int d] h = .ok x.v h := by
  obtain ⟨x, h1, h2, h3⟩ := h
  exact ⟨x, h1, h2, fun m hm h => flat_call rfl (refs_rule x) (h3 m hm) h⟩
end Pg
set_option Elab.async false
set_option linter.all false
set_option maxRecDepth 100000
set_option maxHeartbeats 4000000
set_option autoImplicit false
namespace Wr
open PySem PySem.Spec PyProof.Rows L2
def td1Y (o : Option (Sg × Hs)) (k : Ds) : RS := match o with
  | some (s2, h2) => k s2 h2
  | none => .no
def foTY (live : List Nat) (t : Tg) (body : Nat → Ds) (r : Rs It') (s : Sg) : RS := r.bindS s fun it h1 => forC h1.length live it t (body h1.length) (itLen it h1 + 1) 0 s h1
def cs3Y (o : Option Sg) (p : Option Hs) : Option (Sg × Hs) := match o with
  | some s => match p with
    | some h => some (s, h)
    | none => none
  | none => none
def cs2Y (b : Bool) (m : List Nat) (s : Sg) (h : Hs) : Option (Sg × Hs) := match b with
  | true => cs3Y (renSl (idx m) s) (selO m h m)
  | false => none
def cs1Y (m : List Nat) (s : Sg) (h : Hs) : Option (Sg × Hs) := cs2Y (nodupB m) m s h
def keepMY (n0 : Nat) : List Nat → List Nat
  | [] => []
  | x :: l => bif decide (n0 ≤ x) then x :: keepMY n0 l else keepMY n0 l
theorem keepM_is (n0 : Nat) : ∀ l : List Nat, l.filter (fun i => decide (n0 ≤ i)) = keepMY n0 l
  | [] => rfl
  | x :: l => by rw [List.filter_cons, keepMY, cond_eq_ite, keepM_is n0 l]
def refsHY : Hs → List Nat
  | [] => []
  | o :: t => refsO o ++ refsHY t
theorem refsH_is : ∀ l : Hs, l.flatMap refsO = refsHY l
  | [] => rfl
  | x :: l => by rw [List.flatMap_cons, refsHY, refsH_is l]
def cs0Y (n0 : Nat) (s : Sg) (h : Hs) : Option (Sg × Hs) := cs1Y (List.range n0 ++ keepMY n0 (reach 300 h (refsS s ++ refsHY (h.take n0)) [])) s h
def rc2Y (o : Option Ob) (n : Nat) (hp : Hs) (i : Nat) (t acc : List Nat) : List Nat := match o with
  | some o => reach n hp (refsO o ++ t) (acc ++ [i])
  | none => reach n hp t acc
def rn0Y (o : Option Sg) : Option Sg := match o with
  | some r => some (none :: r)
  | none => none
def rn1Y (o : Option Va) (p : Option Sg) : Option Sg := match o with
  | some w => match p with
    | some r => some (some w :: r)
    | none => none
  | none => none
def rnrY (o : Option Nat) : Option Va := o.map .ref
def rntY (o : Option (List Va)) : Option Va := o.map .tup
def rncY (o : Option Va) (p : Option (List Va)) : Option (List Va) := match o with
  | some a => match p with
    | some b => some (a :: b)
    | none => none
  | none => none
def ix1Y (o : Option Nat) : Option Nat := match o with
  | some k => some (k + 1)
  | none => none
def sl1Y (m : List Nat) (o : Option Ob) (h : Hs) (t : List Nat) : Option Hs := match o with
  | some o => match renO (idx m) o with
    | some a => match selO m h t with
      | some b => some (a :: b)
      | none => none
    | none => none
  | none => none
def sl2Y (o : Option Ob) (p : Option Hs) : Option Hs := match o with
  | some a => match p with
    | some b => some (a :: b)
    | none => none
  | none => none
def roLY (o : Option (List Va)) : Option Ob := o.map .lst
def roKY (o : Option (List (Key × Va))) : Option Ob := o.map .dK
def rkcY {κ : Type} (k : κ) (o : Option Va) (p : Option (List (κ × Va))) : Option (List (κ × Va)) := match o with
  | some a => match p with
    | some b => some ((k, a) :: b)
    | none => none
  | none => none
theorem y_seqT (n0 : Nat) (live : List Nat) (f k : Ds) (s : Sg) (h : Hs) : dSeqT n0 live f k s h = thT n0 live (f s h) k := rfl
theorem y_thT1 (n0 : Nat) (live : List Nat) (k : Ds) (s : Sg) (h : Hs) : thT n0 live (.nx s h) k = td1Y (cleanS n0 live s h) k := rfl
theorem y_thT2 (n0 : Nat) (live : List Nat) (k : Ds) (v : Va) (h : Hs) : thT n0 live (.rt v h) k = .rt v h := rfl
theorem y_thT3 (n0 : Nat) (live : List Nat) (k : Ds) (s : Sg) (h : Hs) : thT n0 live (.ct s h) k = .ct s h := rfl
theorem y_thT4 (n0 : Nat) (live : List Nat) (k : Ds) (s : Sg) (h : Hs) : thT n0 live (.bk s h) k = .bk s h := rfl
theorem y_td1 (k : Ds) (s : Sg) (h : Hs) : td1Y (some (s, h)) k = k s h := rfl
theorem y_base (b : Nat → Ds) (s : Sg) (h : Hs) : dBase b s h = b h.length s h := rfl
theorem y_forT (live : List Nat) (di : Di) (t : Tg) (body : Nat → Ds) (s : Sg) (h : Hs) : dForT live di t body s h = foTY live t body (di s h) s := rfl
theorem y_foT (live : List Nat) (t : Tg) (body : Nat → Ds) (it : It') (s : Sg) (h : Hs) : foTY live t body (.ok it h) s = forC h.length live it t (body h.length) (itLen it h + 1) 0 s h := rfl
theorem y_cleanS (n0 : Nat) (live : List Nat) (s : Sg) (h : Hs) : cleanS n0 live s h = cs0Y n0 (maskS live 0 s) h := by
  unfold cleanS cs0Y cs1Y
  simp only [keepM_is, refsH_is]
  generalize (List.range n0 ++ keepMY n0 (reach 300 h (refsS (maskS live 0 s) ++ refsHY (List.take n0 h)) [])) = m
  cases nodupB m with
  | false => rfl
  | true =>
    simp only [cs2Y, ↓reduceIte]
    cases renSl (idx m) (maskS live 0 s) with
    | none => rfl
    | some s2 => cases selO m h m <;> rfl
theorem y_cs0 (n0 : Nat) (s : Sg) (h : Hs) : cs0Y n0 s h = cs1Y (List.range n0 ++ keepMY n0 (reach 300 h (refsS s ++ refsHY (h.take n0)) [])) s h := rfl
theorem y_cs1 (m : List Nat) (s : Sg) (h : Hs) : cs1Y m s h = cs2Y (nodupB m) m s h := rfl
theorem y_cs2 (m : List Nat) (s : Sg) (h : Hs) : cs2Y true m s h = cs3Y (renSl (idx m) s) (selO m h m) := rfl
theorem y_cs3 (s : Sg) (h : Hs) : cs3Y (some s) (some h) = some (s, h) := rfl
theorem y_kM0 (n0 : Nat) : keepMY n0 [] = [] := rfl
theorem y_kM1 (n0 x : Nat) (l : List Nat) : keepMY n0 (x :: l) = bif decide (n0 ≤ x) then x :: keepMY n0 l else keepMY n0 l := rfl
theorem y_rH0  : refsHY [] = [] := rfl
theorem y_rH1 (o : Ob) (t : Hs) : refsHY (o :: t) = refsO o ++ refsHY t := rfl
theorem y_rS0  : refsS [] = [] := rfl
theorem y_rSn (t : Sg) : refsS (none :: t) = refsS t := rfl
theorem y_rSs (v : Va) (t : Sg) : refsS (some v :: t) = refsV v ++ refsS t := rfl
theorem y_rVr (i : Nat) : refsV (.ref i) = [i] := rfl
theorem y_rVn  : refsV .non = [] := rfl
theorem y_ren (f : Nat → Option Nat)  : ren f .non = some .non := rfl
theorem y_rVb (b : Bool) : refsV (.bl b) = [] := rfl
theorem y_reb (f : Nat → Option Nat) (b : Bool) : ren f (.bl b) = some (.bl b) := rfl
theorem y_rVi (i : Int) : refsV (.int i) = [] := rfl
theorem y_rei (f : Nat → Option Nat) (i : Int) : ren f (.int i) = some (.int i) := rfl
theorem y_rVs (x : Str) : refsV (.str x) = [] := rfl
theorem y_res (f : Nat → Option Nat) (x : Str) : ren f (.str x) = some (.str x) := rfl
theorem y_rVy (n : String) : refsV (.ty n) = [] := rfl
theorem y_rey (f : Nat → Option Nat) (n : String) : ren f (.ty n) = some (.ty n) := rfl
theorem y_rVg (n : Nat) : refsV (.gl n) = [] := rfl
theorem y_reg (f : Nat → Option Nat) (n : Nat) : ren f (.gl n) = some (.gl n) := rfl
theorem y_rVc  : refsV .scr = [] := rfl
theorem y_rec (f : Nat → Option Nat)  : ren f .scr = some .scr := rfl
theorem y_rVx (n : Nat) : refsV (.exc n) = [] := rfl
theorem y_rex (f : Nat → Option Nat) (n : Nat) : ren f (.exc n) = some (.exc n) := rfl
theorem y_rVt (xs : List Va) : refsV (.tup xs) = refsVs xs := rfl
theorem y_rVs0  : refsVs [] = [] := rfl
theorem y_rVs1 (x : Va) (xs : List Va) : refsVs (x :: xs) = refsV x ++ refsVs xs := rfl
theorem y_rOl (xs : List Va) : refsO (.lst xs) = refsVs xs := rfl
theorem y_rOd (xs : List (Key × Va)) : refsO (.dK xs) = refsK xs := rfl
theorem y_rOt (xs : List (List Key × Va)) : refsO (.dT xs) = refsK xs := rfl
theorem y_rOu (xs : List (NestedKey × Va)) : refsO (.dU xs) = refsK xs := rfl
theorem y_rK0 {κ : Type} : refsK ([] : List (κ × Va)) = [] := rfl
theorem y_rK1 {κ : Type} (k : κ) (x : Va) (xs : List (κ × Va)) : refsK ((k, x) :: xs) = refsV x ++ refsK xs := rfl
theorem y_rc0 (n : Nat) (hp : Hs) (acc : List Nat) : reach (n + 1) hp [] acc = acc := rfl
theorem y_rc1 (n : Nat) (hp : Hs) (i : Nat) (t acc : List Nat) : reach (n + 1) hp (i :: t) acc = bif acc.contains i then reach n hp t acc else rc2Y hp[i]? n hp i t acc := by rw [cond_eq_ite]; rfl
theorem y_rc2 (o : Ob) (n : Nat) (hp : Hs) (i : Nat) (t acc : List Nat) : rc2Y (some o) n hp i t acc = reach n hp (refsO o ++ t) (acc ++ [i]) := rfl
theorem y_nd0  : nodupB [] = true := rfl
theorem y_nd1 (x : Nat) (t : List Nat) : nodupB (x :: t) = (!(t.contains x) && nodupB t) := rfl
theorem y_rn (f : Nat → Option Nat)  : renSl f [] = some [] := rfl
theorem y_rn0 (f : Nat → Option Nat) (t : Sg) : renSl f (none :: t) = rn0Y (renSl f t) := by rw [renSl]; unfold rn0Y; cases renSl f t <;> rfl
theorem y_rn1 (f : Nat → Option Nat) (v : Va) (t : Sg) : renSl f (some v :: t) = rn1Y (ren f v) (renSl f t) := by rw [renSl]; unfold rn1Y; cases ren f v with | none => rfl | some w => (cases renSl f t <;> rfl)
theorem y_rn0s (r : Sg) : rn0Y (some r) = some (none :: r) := rfl
theorem y_rn1s (w : Va) (r : Sg) : rn1Y (some w) (some r) = some (some w :: r) := rfl
theorem y_rer (f : Nat → Option Nat) (i : Nat) : ren f (.ref i) = rnrY (f i) := rfl
theorem y_rnr (j : Nat) : rnrY (some j) = some (.ref j) := rfl
theorem y_ret (f : Nat → Option Nat) (xs : List Va) : ren f (.tup xs) = rntY (rens f xs) := rfl
theorem y_rnt (xs : List Va) : rntY (some xs) = some (.tup xs) := rfl
theorem y_rs0 (f : Nat → Option Nat)  : rens f [] = some [] := rfl
theorem y_rs1 (f : Nat → Option Nat) (x : Va) (xs : List Va) : rens f (x :: xs) = rncY (ren f x) (rens f xs) := by rw [rens]; unfold rncY; cases ren f x with | none => rfl | some w => (cases rens f xs <;> rfl)
theorem y_rnc (a : Va) (b : List Va) : rncY (some a) (some b) = some (a :: b) := rfl
theorem y_ix0 (x j : Nat) (t : List Nat) : idx (x :: t) j = bif x == j then some 0 else ix1Y (idx t j) := by rw [cond_eq_ite]; unfold ix1Y; rw [idx]; cases idx t j <;> rfl
theorem y_ix1 (k : Nat) : ix1Y (some k) = some (k + 1) := rfl
theorem y_so0 (m : List Nat) (h : Hs) : selO m h [] = some [] := rfl
theorem y_so1 (m : List Nat) (h : Hs) (i : Nat) (t : List Nat) : selO m h (i :: t) = sl1Y m h[i]? h t := by unfold sl1Y; rw [selO]; all_goals (cases h[i]? with | none => rfl | some o => rfl)
theorem y_sl1 (m : List Nat) (o : Ob) (h : Hs) (t : List Nat) : sl1Y m (some o) h t = sl2Y (renO (idx m) o) (selO m h t) := rfl
theorem y_sl2 (a : Ob) (b : Hs) : sl2Y (some a) (some b) = some (a :: b) := rfl
theorem y_roL (f : Nat → Option Nat) (xs : List Va) : renO f (.lst xs) = roLY (rens f xs) := rfl
theorem y_roL1 (xs : List Va) : roLY (some xs) = some (.lst xs) := rfl
theorem y_roK (f : Nat → Option Nat) (xs : List (Key × Va)) : renO f (.dK xs) = roKY (renK f xs) := rfl
theorem y_roK1 (xs : List (Key × Va)) : roKY (some xs) = some (.dK xs) := rfl
theorem y_rk0 {κ : Type} (f : Nat → Option Nat)  : renK f ([] : List (κ × Va)) = some [] := rfl
theorem y_rk1 {κ : Type} (f : Nat → Option Nat) (k : κ) (x : Va) (xs : List (κ × Va)) : renK f ((k, x) :: xs) = rkcY k (ren f x) (renK f xs) := by rw [renK]; unfold rkcY; cases ren f x with | none => rfl | some w => (cases renK f xs <;> rfl)
theorem y_rkc {κ : Type} (k : κ) (a : Va) (b : List (κ × Va)) : rkcY k (some a) (some b) = some ((k, a) :: b) := rfl
theorem y_rg0  : List.range 0 = [] := rfl
theorem y_rgS (n : Nat) : List.range (n + 1) = List.range n ++ [n] := List.range_succ
theorem rens_intsF (f : Nat → Option Nat) : ∀ l : List Int, rens f (l.map Va.int) = some (l.map Va.int)
  | [] => rfl
  | x :: l => by rw [List.map_cons, y_rs1, rens_intsF f l]; rfl
theorem ren_flat {v : Va} (f : Nat → Option Nat) (hv : refsV v = []) : ren f v = some v := ren_low v (nil_low hv)
theorem rens_flat {v : List Va} (f : Nat → Option Nat) (hv : refsVs v = []) : rens f v = some v := rens_low v (nil_low hv)
end Wr
namespace Pg
open PySem PySem.Spec PyProof.Rows L2 Wr
theorem ren_rule (f : Nat → Option Nat) (x : Rl) : ren f x.v = some x.v := ren_flat f (refs_rule x)
theorem ren_book (f : Nat → Option Nat) (x : B6) : ren f x.v = some x.v := ren_flat f (refs_book x)
theorem rens_rows (f : Nat → Option Nat) (r : List (List Int)) : rens f (rowsL r) = some (rowsL r) := rens_flat f (refs_rows r)
end Pg
set_option Elab.async false
set_option linter.all false
set_option maxRecDepth 100000
set_option maxHeartbeats 4000000
set_option autoImplicit false
namespace Wr
open PySem PySem.Spec PyProof.Rows L2
theorem forC_at {n0 : Nat} {live : List Nat} {it : It'} {t : Tg} {body : Ds} (st : Nat → Sg) (hp : Nat → Hs) (N : Nat) (hend : nxt it N (hp N) = some none)
    (step : ∀ j, j < N → ∃ v s1 s2 h2, nxt it j (hp j) = some (some v) ∧ setT t v (st j) (hp j) = some s1 ∧ (body s1 (hp j) = .nx s2 h2 ∨ body s1 (hp j) = .ct s2 h2) ∧ cleanS n0 live s2 h2 = some (st (j + 1), hp (j + 1))) :
    ∀ (f j : Nat) (s : Sg) (h : Hs), j + f = N + 1 → 0 < f → cleanS n0 live s h = some (st j, hp j) → forC n0 live it t body f j s h = .nx (st N) (hp N)
  | 0, _, _, _, _, z, _ => absurd z (Nat.lt_irrefl 0)
  | f + 1, j, s, h, ef, _, hc => by
    rw [u_forS, hc, u_fA]
    by_cases hj : j < N
    · obtain ⟨v, s1, s2, h2, q1, q2, q3, q4⟩ := step j hj
      rw [q1, u_fB1, q2, u_fC]
      rcases q3 with q3 | q3
      · rw [q3, u_con1]; exact forC_at st hp N hend step f (j + 1) s2 h2 (by omega) (by omega) q4
      · rw [q3, u_con2]; exact forC_at st hp N hend step f (j + 1) s2 h2 (by omega) (by omega) q4
    · have e : j = N := by omega
      subst e
      rw [hend, u_fB0]
/-- cleaning: all behind n0 goes -/
theorem clean_to {n0 : Nat} {live : List Nat} {s s2 : Sg} {h h2 : Hs} (hl : n0 ≤ h.length) (hm : maskS live 0 s = s2) (ht : h.take n0 = h2) (hs : ∀ x ∈ refsS s2, x < n0) (ho : ∀ x ∈ h2.flatMap refsO, x < n0) : cleanS n0 live s h = some (s2, h2) := by
  have := clean_gen (n0 := n0) (live := live) (s := s) (h := h) hl (by rw [hm]; exact hs) (by rw [ht]; exact ho)
  unfold CleanOK at this
  rw [this, hm, ht]
theorem stepT {n0 : Nat} {live : List Nat} {f k : Ds} {s : Sg} {h : Hs} {s1 : Sg} {h1 : Hs} {s2 : Sg} {h2 : Hs} {r : RS} (e : f s h = .nx s1 h1) (c : cleanS n0 live s1 h1 = some (s2, h2)) (q : k s2 h2 = r) : dSeqT n0 live f k s h = r := by
  rw [y_seqT, e, y_thT1, c]; exact q
def Like (h : Hs) (n : Nat) (v : Va) : Prop := ∃ d, toD h n v = some d ∧ PyData.eqv d d = true
theorem Like.int (h : Hs) (n : Nat) (i : Int) : Like h n (.int i) := ⟨.int i, by rw [toD_int], by rw [eqv_int]; simp⟩
theorem tdS_like {h : Hs} {n : Nat} : ∀ l : List Va, (∀ v ∈ l, Like h n v) → ∃ ds, tdS h n l = some ds ∧ PyData.eqvAll ds ds = true
  | [], _ => ⟨[], rfl, by simp [PyData.eqvAll]⟩
  | x :: l, q => by
    obtain ⟨d, e1, e2⟩ := q x (by simp)
    obtain ⟨ds, e3, e4⟩ := tdS_like l fun v hv => q v (by simp [hv])
    exact ⟨d :: ds, by rw [u_tdS1, e1, e3, u_tdC], by rw [eqv_all1, e2, e4]; rfl⟩
theorem Like.tup {h : Hs} {n : Nat} {l : List Va} (q : ∀ v ∈ l, Like h n v) : Like h (n + 1) (.tup l) := by
  obtain ⟨ds, e1, e2⟩ := tdS_like l q
  exact ⟨.tuple ds, by rw [u_tdT, e1, u_tdTT], by rw [eqv_tup]; exact e2⟩
theorem Like.lst {h : Hs} {n r : Nat} {l : List Va} (hr : h[r]? = some (.lst l)) (q : ∀ v ∈ l, Like h n v) : Like h (n + 1) (.ref r) := by
  obtain ⟨ds, e1, e2⟩ := tdS_like l q
  exact ⟨.list ds, by rw [u_tdR, hr, u_tdL, e1, u_tdLL], by rw [eqv_lst]; exact e2⟩
theorem eqLk {h : Hs} {r q : Nat} {l : List Va} (hr : h[r]? = some (.lst l)) (hq : h[q]? = some (.lst l)) (k : ∀ v ∈ l, Like h 8 v) : kEq (.ref r) (.ref q) h = some (.bl true, h) := by
  obtain ⟨ds, e1, e2⟩ := tdS_like l k
  rw [u_eq, u_tdR, u_tdR, hr, hq, u_tdL, e1, u_tdLL, u_eq2t, eqv_lst, e2]
end Wr
set_option Elab.async false
set_option linter.all false
set_option maxRecDepth 100000
set_option maxHeartbeats 4000000
set_option autoImplicit false
namespace Pg
open PySem PySem.Spec PyProof.Rows L2 Wr
def B6.get (x : B6) : Nat → Int
  | 0 => x.a
  | 1 => x.b
  | 2 => x.c
  | 3 => x.d
  | 4 => x.e
  | _ => x.f
def B6.dec (x : B6) : Nat → B6
  | 0 => ⟨x.a - 1, x.b, x.c, x.d, x.e, x.f⟩
  | 1 => ⟨x.a, x.b - 1, x.c, x.d, x.e, x.f⟩
  | 2 => ⟨x.a, x.b, x.c - 1, x.d, x.e, x.f⟩
  | 3 => ⟨x.a, x.b, x.c, x.d - 1, x.e, x.f⟩
  | 4 => ⟨x.a, x.b, x.c, x.d, x.e - 1, x.f⟩
  | _ => ⟨x.a, x.b, x.c, x.d, x.e, x.f - 1⟩
def B6.inc (x : B6) : Nat → B6
  | 0 => ⟨x.a + 1, x.b, x.c, x.d, x.e, x.f⟩
  | 1 => ⟨x.a, x.b + 1, x.c, x.d, x.e, x.f⟩
  | 2 => ⟨x.a, x.b, x.c + 1, x.d, x.e, x.f⟩
  | 3 => ⟨x.a, x.b, x.c, x.d + 1, x.e, x.f⟩
  | 4 => ⟨x.a, x.b, x.c, x.d, x.e + 1, x.f⟩
  | _ => ⟨x.a, x.b, x.c, x.d, x.e, x.f + 1⟩
def B6.chg (x : B6) (n o : Nat) : B6 := (x.dec n).inc o
def B6.l (x : B6) : List Va := [.int x.a, .int x.b, .int x.c, .int x.d, .int x.e, .int x.f]
/-- at most 98 of each -/
def B6.ok1 (x : B6) : Prop := (0 ≤ x.a ∧ x.a ≤ 98) ∧ (0 ≤ x.b ∧ x.b ≤ 98) ∧ (0 ≤ x.c ∧ x.c ≤ 98) ∧ (0 ≤ x.d ∧ x.d ≤ 98) ∧ (0 ≤ x.e ∧ x.e ≤ 98) ∧ (0 ≤ x.f ∧ x.f ≤ 98)
theorem B6.ok1.ok {x : B6} (h : x.ok1) : x.ok := by unfold B6.ok1 at h; unfold B6.ok B99; omega
theorem l_v (x : B6) : Va.tup x.l = x.v := rfl
theorem l_len (x : B6) : x.l.length = 6 := rfl
theorem l_get (x : B6) (n : Nat) (hn : n < 6) : x.l[n]? = some (.int (x.get n)) := by
  rcases lt6 hn with rfl | rfl | rfl | rfl | rfl | rfl <;> rfl
theorem l_dec (x : B6) (n : Nat) (hn : n < 6) : x.l.set n (.int (x.get n - 1)) = (x.dec n).l := by
  rcases lt6 hn with rfl | rfl | rfl | rfl | rfl | rfl <;> rfl
theorem l_inc (x : B6) (n : Nat) (hn : n < 6) : x.l.set n (.int (x.get n + 1)) = (x.inc n).l := by
  rcases lt6 hn with rfl | rfl | rfl | rfl | rfl | rfl <;> rfl
theorem chg_ok (x : B6) (hx : x.ok1) (n o : Nat) (hn : n < 6) (ho : o < 6) (hp : 0 < x.get n) : (x.chg n o).ok := by
  obtain ⟨a, b, c, d, e, f⟩ := x
  unfold B6.ok1 at hx
  unfold B6.ok B99 B6.chg
  rcases lt6 hn with rfl | rfl | rfl | rfl | rfl | rfl <;> rcases lt6 ho with rfl | rfl | rfl | rfl | rfl | rfl <;> simp only [B6.get, B6.dec, B6.inc] at * <;> omega
theorem atI_nat {α : Type} (l : List α) (n : Nat) (hn : n < l.length) : L2.atI l (n : Int) = l[n]? := by
  rw [u_atI, u_ixN, if_pos (by omega), if_pos (by omega)]
  simp
theorem ixB (x : B6) (n : Nat) (hn : n < 6) (h : Hs) : kIxU x.v (.int n) h = some (.int (x.get n), h) := by
  rw [← l_v, u_ixT, atI_nat _ _ (by rw [l_len]; exact hn), l_get x n hn, u_ixo]
theorem lookB (x : B6) (hx : x.ok) (h : Hs) : callD look_book [x.v] h = .ok .non h := look_call x.a x.b x.c x.d x.e x.f (B99.bok hx) h
theorem look_number_ok (n : Nat) (hn : n < 6) (h : Hs) : callD look_number [.int n] h = .ok .non h := by
  refine flat_call rfl rfl ?_ h
  rcases lt6 hn with rfl | rfl | rfl | rfl | rfl | rfl <;> kernel_rfl
theorem changed_to_ok (x : B6) (n o : Nat) (hn : n < 6) (ho : o < 6) (h : Hs) : callD changed_to [x.v, .int n, .int o] h = .ok (x.chg n o).v h := by
  refine flat_call rfl rfl ?_ h
  obtain ⟨a, b, c, d, e, f⟩ := x
  rcases lt6 hn with rfl | rfl | rfl | rfl | rfl | rfl <;> rcases lt6 ho with rfl | rfl | rfl | rfl | rfl | rfl <;> kernel_rfl
theorem changed_ok (x : B6) (hx : x.ok1) (n o : Nat) (hn : n < 6) (ho : o < 6) (hp : 0 < x.get n) (h : Hs) : callD changed [x.v, .int n, .int o] h = .ok (x.chg n o).v h := by
  refine flat_call rfl rfl ?_ h
  have l1 := fun h => lookB x hx.ok h
  have l2 := fun h => lookB (x.chg n o) (chg_ok x hx n o hn ho hp) h
  have l3 := fun h => look_number_ok n hn h
  have l4 := fun h => look_number_ok o ho h
  have l5 := fun h => changed_to_ok x n o hn ho h
  have l6 := fun h => ixB x n hn h
  unfold changed D_changed fnD
  show compact 0 (toRs (dSeq _ (dSeq _ _) [some x.v, some (.int n), some (.int o), none] [])) = _
  generalize hv : (x.chg n o).v = w at *
  generalize x.v = v at *
  simp (maxSteps := 10000000) (disch := first | omega | (simp only [List.length_cons, List.length_nil, List.length_append, List.length_map] <;> omega) | (unfold CleanOK; with_unfolding_all rfl) | (with_unfolding_all rfl)) only [u_seq, u_expr, u_call, u_acons, u_v0, u_ac1, u_anil, u_ac2, u_ca1, l1, u_ex1, u_then, u_vS, l3, l4, u_ifs, u_test, u_op, u_op1, u_op2, l6, u_lft, u_c, u_eq, toD_int, u_eq2t, eqv_int, u_df, u_tst, u_ifs1f, u_nx, u_set, l5, u_st1, List.set_cons_succ, List.set_cons_zero, l2, u_ret, u_rt1]
  exact compact_val (by rw [← hv]; rfl)
def sg (R : List (List Int)) : Option Int := match R with
  | [t] :: _ => some t
  | _ => none
def wl : Nat → List Int
  | 0 => [0, 1, 2]
  | 1 => [0, 2, 1]
  | 2 => [1, 0, 2]
  | 3 => [1, 2, 0]
  | 4 => [2, 0, 1]
  | _ => [2, 1, 0]
end Pg
set_option Elab.async false
set_option linter.all false
set_option maxRecDepth 100000
set_option maxHeartbeats 4000000
set_option autoImplicit false
namespace Wr
open PySem PySem.Spec PyProof.Rows L2
def enmA (r : Rs (List Va)) : Rs It' := r.bind fun vs h1 => match vs with
  | [x] => if noStr x then (itOf x h1).bind fun a h2 => .ok (.enum a) h2 else .no
  | _ => .no
theorem u_enum (f : Da) (s : Sg) (h : Hs) : dEnum f s h = enmA (f s h) := rfl
theorem u_enmR (r : Nat) (h : Hs) : enmA (.ok [.ref r] h) = en2 (it1 (.ok (.ref r) h)) := rfl
theorem u_enmT (xs : List Va) (h : Hs) : enmA (.ok [.tup xs] h) = en2 (it1 (.ok (.tup xs) h)) := rfl
theorem u_en2 (a : It') (h : Hs) : en2 (.ok a h) = .ok (.enum a) h := rfl
def mlL (o : Option Ob) (k : Int) (h : Hs) : Option (Va × Hs) := match o with
  | some (.lst xs) => if decide (-(2 ^ 63) ≤ k) && decide (k < 2 ^ 63) && okN (xs.length * k.toNat) then some (.ref h.length, h ++ [.lst (List.replicate k.toNat xs).flatten]) else none
  | _ => none
theorem u_mulL (r : Nat) (k : Int) (h : Hs) : kMul (.ref r) (.int k) h = mlL h[r]? k h := rfl
theorem u_mlL0 (x : Va) (h : Hs) : mlL (some (.lst [x])) 0 h = some (.ref h.length, h ++ [.lst []]) := rfl
theorem u_mlL1 (x : Va) (h : Hs) : mlL (some (.lst [x])) 1 h = some (.ref h.length, h ++ [.lst [x]]) := rfl
theorem u_mlL2 (x : Va) (h : Hs) : mlL (some (.lst [x])) 2 h = some (.ref h.length, h ++ [.lst [x, x]]) := rfl
theorem u_mlL3 (x : Va) (h : Hs) : mlL (some (.lst [x])) 3 h = some (.ref h.length, h ++ [.lst [x, x, x]]) := rfl
theorem u_mlL6 (x : Va) (h : Hs) : mlL (some (.lst [x])) 6 h = some (.ref h.length, h ++ [.lst [x, x, x, x, x, x]]) := rfl
def mxT (o : Option (List Int)) (h : Hs) : Option (Va × Hs) := match o with
  | some (m :: t) => some (.int (maxI m t), h)
  | _ => none
theorem u_maxT (ys : List Va) (h : Hs) : kMaxT [.tup ys] h = mxT (intsV ys) h := by
  unfold kMaxT mxT
  simp only
  all_goals (cases intsV ys with
    | none => rfl
    | some l => cases l <;> rfl)
theorem u_mxT (m : Int) (t : List Int) (h : Hs) : mxT (some (m :: t)) h = some (.int (maxI m t), h) := rfl
end Wr
namespace Pg
open PySem PySem.Spec PyProof.Rows L2 Wr
theorem refs_l (b : B6) : refsVs b.l = [] := rfl
theorem rens_l (f : Nat → Option Nat) (b : B6) : rens f b.l = some b.l := rens_flat f rfl
theorem refs_wv (n : Nat) : refsV (wv n) = [] := by
  unfold wv
  repeat' split
  all_goals rfl
theorem ren_wv (f : Nat → Option Nat) (n : Nat) : ren f (wv n) = some (wv n) := ren_flat f (refs_wv n)
end Pg
set_option Elab.async false
set_option linter.all false
set_option maxRecDepth 100000
set_option maxHeartbeats 4000000
set_option autoImplicit false
namespace Pg
open PySem PySem.Spec PyProof.Rows L2 Wr
def hd (R : List (List Int)) : List Int := R.headD []
end Pg
set_option Elab.async false
set_option linter.all false
set_option maxRecDepth 100000
set_option maxHeartbeats 4000000
set_option autoImplicit false
namespace Pg
open PySem PySem.Spec PyProof.Rows L2 Wr
end Pg
set_option Elab.async false
set_option linter.all false
set_option maxRecDepth 100000
set_option maxHeartbeats 4000000
set_option autoImplicit false
namespace Wr
open PySem PySem.Spec PyProof.Rows L2
end Wr
namespace Pg
open PySem PySem.Spec PyProof.Rows L2 Wr
def B6.h (b : B6) : Prop := (0 ≤ b.a ∧ b.a ≤ 49) ∧ (0 ≤ b.b ∧ b.b ≤ 49) ∧ (0 ≤ b.c ∧ b.c ≤ 49) ∧ (0 ≤ b.d ∧ b.d ≤ 49) ∧ (0 ≤ b.e ∧ b.e ≤ 49) ∧ (0 ≤ b.f ∧ b.f ≤ 49)
theorem B6.h.ok1 {b : B6} (hb : b.h) : b.ok1 := by unfold B6.h at hb; unfold B6.ok1; omega
def first : Nat → Nat
  | 0 => 0
  | 1 => 0
  | 2 => 1
  | 3 => 1
  | 4 => 2
  | _ => 2
end Pg
set_option Elab.async false
set_option linter.all false
set_option maxRecDepth 100000
set_option maxHeartbeats 4000000
set_option autoImplicit false
namespace Wr
open PySem PySem.Spec PyProof.Rows L2
def nums (g : List Nat) : List Va := g.map fun j : Nat => Va.int j
theorem reach_flat (h : Hs) : ∀ (rs acc : List Nat) (n : Nat), rs.length < n → (∀ r ∈ rs, r ∉ acc) → rs.Nodup → (∀ r ∈ rs, ∃ ob, h[r]? = some ob ∧ refsO ob = []) → reach n h rs acc = acc ++ rs
  | [], acc, n, _, _, _, _ => by rw [reach_nil, List.append_nil]
  | r :: rs, acc, 0, hn, _, _, _ => by simp at hn
  | r :: rs, acc, n + 1, hn, ha, hd, hf => by
    obtain ⟨ob, e1, e2⟩ := hf r (by simp)
    have hc : acc.contains r = false := by simpa using ha r (by simp)
    rw [y_rc1, hc, cond_false, e1, y_rc2, e2, List.nil_append]
    rw [List.nodup_cons] at hd
    rw [reach_flat h rs (acc ++ [r]) n (by simp at hn; omega) (fun z hz hm => ?_) hd.2 (fun z hz => hf z (by simp [hz]))]
    · simp
    · rcases List.mem_append.mp hm with q | q
      · exact ha z (by simp [hz]) q
      · rw [List.mem_singleton.mp q] at hz
        exact hd.1 hz
theorem selO_all {m : List Nat} {h : Hs} {g : Nat → Ob} : ∀ (l : List Nat), (∀ i ∈ l, ∃ ob, h[i]? = some ob ∧ renO (idx m) ob = some (g i)) → selO m h l = some (l.map g)
  | [], _ => rfl
  | i :: l, hh => by
    obtain ⟨ob, e1, e2⟩ := hh i (by simp)
    rw [y_so1, e1, y_sl1, e2, selO_all l fun j hj => hh j (by simp [hj]), y_sl2, List.map_cons]
theorem idx_at : ∀ (m : List Nat) (i j : Nat), m.Nodup → m[i]? = some j → idx m j = some i
  | [], i, j, _, h => by simp at h
  | x :: m, 0, j, hd, h => by
    simp at h
    subst h
    simp [idx]
  | x :: m, i + 1, j, hd, h => by
    rw [List.nodup_cons] at hd
    have hj : j ∈ m := List.mem_of_getElem? (by simpa using h)
    have hx : (x == j) = false := by
      have : x ≠ j := fun e => hd.1 (e ▸ hj)
      simpa using this
    unfold idx
    rw [hx, if_neg Bool.false_ne_true, idx_at m i j hd.2 (by simpa using h)]
    rfl
theorem mixNil (os : Hs) : ∀ (h : Hs) (j : Nat), mix [] os j h = h
  | [], _ => rfl
  | o :: h, j => by
    unfold mix
    rw [mixNil os h (j + 1)]
    rfl
def NestL (H : Hs) : List Nat → List (List Nat) → Prop
  | [], [] => True
  | r :: rs, g :: gs => H[r]? = some (.lst (nums g)) ∧ NestL H rs gs
  | _, _ => False
theorem NestL.app {H G : Hs} : ∀ {rs : List Nat} {gs : List (List Nat)}, NestL H rs gs → NestL (H ++ G) rs gs
  | [], [], _ => trivial
  | r :: rs, g :: gs, h => ⟨by rw [List.getElem?_append_left (List.getElem?_eq_some_iff.mp h.1).1]; exact h.1, NestL.app h.2⟩
  | [], _ :: _, h => h.elim
  | _ :: _, [], h => h.elim
end Wr
set_option Elab.async false
set_option linter.all false
set_option maxRecDepth 100000
set_option maxHeartbeats 4000000
set_option autoImplicit false
namespace Wr
open PySem PySem.Spec PyProof.Rows L2
theorem compI {it : It'} {n : Nat} {z : Nat → Va} {t : Tg} {test : Dt} {el : De} {s : Sg} {h : Hs} {p : Nat → Bool} {e : Nat → Va}
    (hn : ∀ i, i < n → nxt it i h = some (some (z i))) (he : nxt it n h = some none)
    (hb : ∀ i, i < n → ∃ s1, setT t (z i) s h = some s1 ∧ test s1 h = .ok (p i) h ∧ (p i = true → el s1 h = .ok (e i) h)) :
    ∀ (f i : Nat), i + f = n + 1 → 0 < f → compL it t test el s f i h = .ok (((List.range' i (n - i)).filter p).map e) h
  | 0, _, _, q => absurd q (Nat.lt_irrefl 0)
  | f + 1, i, ef, _ => by
    rw [u_compL]
    by_cases hi : i < n
    · rw [hn i hi, u_clA1]
      obtain ⟨s1, q1, q2, q3⟩ := hb i hi
      rw [q1, u_clB, q2, show n - i = (n - (i + 1)) + 1 by omega, List.range'_succ]
      cases hp : p i with
      | false => rw [u_clCf, compI hn he hb f (i + 1) (by omega) (by omega), List.filter_cons_of_neg (by rw [hp]; exact Bool.false_ne_true)]
      | true => rw [u_clCt, q3 hp, u_clD, compI hn he hb f (i + 1) (by omega) (by omega), u_clE, List.filter_cons_of_pos hp, List.map_cons]
    · have : i = n := by omega
      subst this
      rw [he, u_clA0, Nat.sub_self]
      rfl
theorem compGI {it : It'} {n : Nat} {z : Nat → Va} {t : Tg} {test : Dt} {el : De} {s : Sg} {h0 : Hs} {p : Nat → Bool} {e : Nat → Va}
    (hn : ∀ i G, i < n → nxt it i (h0 ++ G) = some (some (z i))) (he : ∀ G, nxt it n (h0 ++ G) = some none)
    (hb : ∀ i, i < n → ∀ G, ∃ s1 G1, setT t (z i) s (h0 ++ G) = some s1 ∧ test s1 (h0 ++ G) = .ok (p i) (h0 ++ G1) ∧ (p i = true → ∃ G2, el s1 (h0 ++ G1) = .ok (e i) (h0 ++ G2))) :
    ∀ (f i : Nat) (G : Hs), i + f = n + 1 → 0 < f → ∃ G', compL it t test el s f i (h0 ++ G) = .ok (((List.range' i (n - i)).filter p).map e) (h0 ++ G')
  | 0, _, _, _, q => absurd q (Nat.lt_irrefl 0)
  | f + 1, i, G, ef, _ => by
    rw [u_compL]
    by_cases hi : i < n
    · rw [hn i G hi, u_clA1]
      obtain ⟨s1, G1, q1, q2, q3⟩ := hb i hi G
      rw [q1, u_clB, q2, show n - i = (n - (i + 1)) + 1 by omega, List.range'_succ]
      cases hp : p i with
      | false =>
        rw [u_clCf]
        obtain ⟨G', q⟩ := compGI hn he hb f (i + 1) G1 (by omega) (by omega)
        exact ⟨G', by rw [q, List.filter_cons_of_neg (by rw [hp]; exact Bool.false_ne_true)]⟩
      | true =>
        rw [u_clCt]
        obtain ⟨G2, q4⟩ := q3 hp
        rw [q4, u_clD]
        obtain ⟨G', q⟩ := compGI hn he hb f (i + 1) G2 (by omega) (by omega)
        exact ⟨G', by rw [q, u_clE, List.filter_cons_of_pos hp, List.map_cons]⟩
    · have : i = n := by omega
      subst this
      rw [he G, u_clA0, Nat.sub_self]
      exact ⟨G, rfl⟩
end Wr
namespace Pg
open PySem PySem.Spec PyProof.Rows L2 Wr
def OkL (rl : List Rl) : Prop := ∀ x ∈ rl, x.ok ∧ x.deep ≤ 3
section
variable (rl : List Rl) (b : B6)
def Rr (i : Nat) : List (List Int) := rk (rl.getD i .du) b 0
end
end Pg
set_option Elab.async false
set_option linter.all false
set_option maxRecDepth 100000
set_option maxHeartbeats 4000000
set_option autoImplicit false
namespace Wr
open PySem PySem.Spec PyProof.Rows L2
end Wr
namespace Pg
open PySem PySem.Spec PyProof.Rows L2 Wr
section
variable (rl : List Rl) (b : B6)
def fI (i : Nat) : Va := .tup ((hd (Rr rl b i)).map Va.int)
end
end Pg
set_option Elab.async false
set_option linter.all false
set_option maxRecDepth 100000
set_option maxHeartbeats 4000000
set_option autoImplicit false
namespace Wr
open PySem PySem.Spec PyProof.Rows L2
end Wr
namespace Pg
open PySem PySem.Spec PyProof.Rows L2 Wr
end Pg
set_option Elab.async false
set_option linter.all false
set_option maxRecDepth 100000
set_option maxHeartbeats 4000000
set_option autoImplicit false
namespace Pg
open PySem PySem.Spec PyProof.Rows L2 Wr
end Pg
set_option Elab.async false
set_option linter.all false
set_option maxRecDepth 100000
set_option maxHeartbeats 4000000
set_option autoImplicit false
namespace Wr
open PySem PySem.Spec PyProof.Rows L2
end Wr
set_option Elab.async false
set_option linter.all false
set_option maxRecDepth 100000
set_option maxHeartbeats 4000000
set_option autoImplicit false
namespace Pg
open PySem PySem.Spec PyProof.Rows L2 Wr
end Pg
set_option Elab.async false
set_option linter.all false
set_option maxRecDepth 100000
set_option maxHeartbeats 4000000
set_option autoImplicit false
namespace Pg
open PySem PySem.Spec PyProof.Rows L2 Wr
end Pg
set_option Elab.async false
set_option linter.all false
set_option maxRecDepth 100000
set_option maxHeartbeats 4000000
set_option autoImplicit false
set_option Elab.async false
set_option linter.all false
set_option maxRecDepth 100000
set_option maxHeartbeats 4000000
set_option autoImplicit false
namespace Wr
open PySem PySem.Spec PyProof.Rows L2
def PI (now : Va) (p q : Nat) : Ob := .ins 8 [("now", now), ("past", .ref p), ("later", .ref q)]
structure At (h : Hs) (r p q : Nat) (now : Va) (P L : List Va) : Prop where
  rp : r ≠ p
  rq : r ≠ q
  pq : p ≠ q
  hr : h[r]? = some (PI now p q)
  hp : h[p]? = some (.lst P)
  hq : h[q]? = some (.lst L)
  fn : refsV now = []
  fP : refsVs P = []
  fL : refsVs L = []
theorem refs_PI {now : Va} {p q : Nat} (fn : refsV now = []) : refsO (PI now p q) = [p, q] := by
  unfold PI
  simp [refsO, refsK, refsV, fn]
theorem ren_PI {f : Nat → Option Nat} {now : Va} {p q p' q' : Nat} (fn : refsV now = []) (hp : f p = some p') (hq : f q = some q') : renO f (PI now p q) = some (PI now p' q') := by
  unfold PI
  simp [renO, renK, ren, ren_flat f fn, hp, hq]
theorem renO_lst {f : Nat → Option Nat} {l : List Va} (fl : refsVs l = []) : renO f (.lst l) = some (.lst l) := renO_low _ (nil_low (show refsO (.lst l) = [] from fl))
section
variable {h : Hs} {r p q : Nat} {now : Va} {P L : List Va} (A : At h r p q now P L)
include A
theorem At.nd : [r, p, q].Nodup := by
  simp only [List.nodup_cons, List.mem_cons, List.not_mem_nil, or_false, not_or, List.nodup_nil, and_true, not_false_eq_true]
  exact ⟨⟨A.rp, A.rq⟩, A.pq⟩
theorem At.reach (t : List Nat) (n : Nat) : Wr.reach (n + 3) h (r :: t) [] = Wr.reach n h t [r, p, q] := by
  have e1 : ([] : List Nat).contains r = false := rfl
  have e2 : ([r] : List Nat).contains p = false := by simpa using (Ne.symm A.rp)
  have e3 : ([r, p] : List Nat).contains q = false := by simp [Ne.symm A.rq, Ne.symm A.pq]
  rw [show n + 3 = (n + 2) + 1 from rfl, y_rc1, e1, cond_false, A.hr, y_rc2, refs_PI A.fn, List.nil_append, List.cons_append, List.cons_append, List.nil_append,
    show n + 2 = (n + 1) + 1 from rfl, y_rc1, e2, cond_false, A.hp, y_rc2, show refsO (.lst P) = [] from A.fP, List.nil_append, List.cons_append, List.nil_append,
    y_rc1, e3, cond_false, A.hq, y_rc2, show refsO (.lst L) = [] from A.fL, List.nil_append]
  rfl
theorem At.i0 : idx [r, p, q] r = some 0 := idx_at _ 0 r A.nd rfl
theorem At.i1 : idx [r, p, q] p = some 1 := idx_at _ 1 p A.nd rfl
theorem At.i2 : idx [r, p, q] q = some 2 := idx_at _ 2 q A.nd rfl
theorem At.sel : selO [r, p, q] h [r, p, q] = some [PI now 1 2, .lst P, .lst L] := by
  simp [selO, A.hr, A.hp, A.hq, ren_PI A.fn A.i1 A.i2, renO_lst A.fP, renO_lst A.fL]
theorem At.mix (X Y Z : Ob) (new : Hs) : Wr.mix [r, p, q] (X :: Y :: Z :: new) 0 h = ((h.set r X).set p Y).set q Z := by
  have lr : r < h.length := (List.getElem?_eq_some_iff.mp A.hr).1
  have lp : p < h.length := (List.getElem?_eq_some_iff.mp A.hp).1
  have lq : q < h.length := (List.getElem?_eq_some_iff.mp A.hq).1
  refine List.ext_getElem? fun k => ?_
  rw [mix_get, Nat.zero_add]
  by_cases h1 : r = k
  · subst h1
    rw [A.i0, A.hr, List.getElem?_set_ne (Ne.symm A.rq), List.getElem?_set_ne (Ne.symm A.rp), List.getElem?_set_self lr]
    rfl
  · by_cases h2 : p = k
    · subst h2
      rw [A.i1, A.hp, List.getElem?_set_ne (Ne.symm A.pq), List.getElem?_set_self (by simpa using lp)]
      rfl
    · by_cases h3 : q = k
      · subst h3
        rw [A.i2, A.hq, List.getElem?_set_self (by simpa using lq)]
        rfl
      · have : idx [r, p, q] k = none := by simp [idx, h1, h2, h3]
        rw [this, List.getElem?_set_ne h3, List.getElem?_set_ne h2, List.getElem?_set_ne h1]
        cases h[k]? <;> rfl
theorem At.same : ((h.set r (PI now p q)).set p (.lst P)).set q (.lst L) = h := by
  have lr : r < h.length := (List.getElem?_eq_some_iff.mp A.hr).1
  have lp : p < h.length := (List.getElem?_eq_some_iff.mp A.hp).1
  have lq : q < h.length := (List.getElem?_eq_some_iff.mp A.hq).1
  refine List.ext_getElem? fun k => ?_
  by_cases h3 : q = k
  · subst h3
    rw [List.getElem?_set_self (by simpa using lq), A.hq]
  · rw [List.getElem?_set_ne h3]
    by_cases h2 : p = k
    · subst h2
      rw [List.getElem?_set_self (by simpa using lp), A.hp]
    · rw [List.getElem?_set_ne h2]
      by_cases h1 : r = k
      · subst h1
        rw [List.getElem?_set_self lr, A.hr]
      · rw [List.getElem?_set_ne h1]
theorem At.call {F : Fn} {post : List Va} (f1 : refsVs post = []) : callD F (.ref r :: post) h = back [r, p, q] h (F (.ref 0 :: post) [PI now 1 2, .lst P, .lst L]) := by
  unfold callD
  have e1 : refsVs (.ref r :: post) = [r] := by simp only [refsVs, refsV, f1]; rfl
  have e0 : Wr.reach 300 h [r] [] = [r, p, q] := by rw [show 300 = 297 + 3 from rfl, A.reach [] 297]; rfl
  have e2 : rens (idx [r, p, q]) (.ref r :: post) = some (.ref 0 :: post) := by
    rw [y_rs1, rens_flat _ f1, y_rer, A.i0]
    rfl
  rw [e1]
  simp only [e0]
  rw [if_pos (nodupB_of A.nd), e2, A.sel]
theorem At.ba : bkI [r, p, q] h.length 1 = some p := rfl
theorem At.bb : bkI [r, p, q] h.length 2 = some q := rfl
/-- a value is told -/
theorem At.val {F : Fn} {post : List Va} {v : Va} (f1 : refsVs post = []) (fv : refsV v = []) (e : F (.ref 0 :: post) [PI now 1 2, .lst P, .lst L] = .ok v [PI now 1 2, .lst P, .lst L]) : callD F (.ref r :: post) h = .ok v h := by
  rw [A.call f1, e]
  have e4 : renOs (bkI [r, p, q] h.length) [PI now 1 2, .lst P, .lst L] = some [PI now p q, .lst P, .lst L] := by
    simp [renOs, ren_PI A.fn A.ba A.bb, renO_lst A.fP, renO_lst A.fL]
  simp only [back, ren_flat _ fv, backH, e4, A.mix, List.length_cons, List.length_nil, Nat.zero_add, List.drop_succ_cons, List.drop_zero, List.append_nil]
  rw [A.same]
/-- a refusal -/
theorem At.exc {F : Fn} {post : List Va} {c : Nat} (f1 : refsVs post = []) (e : F (.ref 0 :: post) [PI now 1 2, .lst P, .lst L] = .ex c [PI now 1 2, .lst P, .lst L]) : callD F (.ref r :: post) h = .ex c h := by
  rw [A.call f1, e]
  have e4 : renOs (bkI [r, p, q] h.length) [PI now 1 2, .lst P, .lst L] = some [PI now p q, .lst P, .lst L] := by
    simp [renOs, ren_PI A.fn A.ba A.bb, renO_lst A.fP, renO_lst A.fL]
  simp only [back, backH, e4, A.mix, List.length_cons, List.length_nil, Nat.zero_add, List.drop_succ_cons, List.drop_zero, List.append_nil]
  rw [A.same]
/-- a new list is told -/
theorem At.list {F : Fn} {post ys : List Va} (f1 : refsVs post = []) (fy : refsVs ys = []) (e : F (.ref 0 :: post) [PI now 1 2, .lst P, .lst L] = .ok (.ref 3) [PI now 1 2, .lst P, .lst L, .lst ys]) : callD F (.ref r :: post) h = .ok (.ref h.length) (h ++ [.lst ys]) := by
  rw [A.call f1, e]
  have e4 : renOs (bkI [r, p, q] h.length) [PI now 1 2, .lst P, .lst L, .lst ys] = some [PI now p q, .lst P, .lst L, .lst ys] := by
    simp [renOs, ren_PI A.fn A.ba A.bb, renO_lst A.fP, renO_lst A.fL, renO_lst fy]
  have e5 : ren (bkI [r, p, q] h.length) (.ref 3) = some (.ref h.length) := by rw [y_rer]; simp [bkI, rnrY]
  simp only [back, e5, backH, e4, A.mix, List.length_cons, List.length_nil, Nat.zero_add, List.drop_succ_cons, List.drop_zero]
  rw [A.same]
/-- a step is done -/
theorem At.go {F : Fn} {post : List Va} {v now' : Va} {P' : List Va} (f1 : refsVs post = []) (fv : refsV v = []) (fn' : refsV now' = []) (fP' : refsVs P' = []) (e : F (.ref 0 :: post) [PI now 1 2, .lst P, .lst L] = .ok v [PI now' 1 3, .lst P', .lst L, .lst []]) :
    callD F (.ref r :: post) h = .ok v (((h.set r (PI now' p h.length)).set p (.lst P')).set q (.lst L) ++ [.lst []]) := by
  rw [A.call f1, e]
  have b3 : bkI [r, p, q] h.length 3 = some h.length := by simp [bkI]
  have e4 : renOs (bkI [r, p, q] h.length) [PI now' 1 3, .lst P', .lst L, .lst []] = some [PI now' p h.length, .lst P', .lst L, .lst []] := by
    simp [renOs, ren_PI fn' A.ba b3, renO_lst fP', renO_lst A.fL, renO_lst (show refsVs [] = [] from rfl)]
  simp only [back, ren_flat _ fv, backH, e4, A.mix, List.length_cons, List.length_nil, Nat.zero_add, List.drop_succ_cons, List.drop_zero]
theorem At.goA {now' : Va} {P' : List Va} (fn' : refsV now' = []) (fP' : refsVs P' = []) : At (((h.set r (PI now' p h.length)).set p (.lst P')).set q (.lst L) ++ [.lst []]) r p h.length now' P' [] := by
  have lr : r < h.length := (List.getElem?_eq_some_iff.mp A.hr).1
  have lp : p < h.length := (List.getElem?_eq_some_iff.mp A.hp).1
  refine ⟨A.rp, by omega, by omega, ?_, ?_, ?_, fn', fP', rfl⟩
  · rw [List.getElem?_append_left (by simpa using lr), List.getElem?_set_ne (Ne.symm A.rq), List.getElem?_set_ne (Ne.symm A.rp), List.getElem?_set_self lr]
  · rw [List.getElem?_append_left (by simpa using lp), List.getElem?_set_ne (Ne.symm A.pq), List.getElem?_set_self (by simpa using lp)]
  · rw [List.getElem?_append_right (by simp)]
    simp
/-- a step back or forth -/
theorem At.upd {F : Fn} {post : List Va} {v now' : Va} {P' L' : List Va} (f1 : refsVs post = []) (fv : refsV v = []) (fn' : refsV now' = []) (fP' : refsVs P' = []) (fL' : refsVs L' = []) (e : F (.ref 0 :: post) [PI now 1 2, .lst P, .lst L] = .ok v [PI now' 1 2, .lst P', .lst L']) :
    callD F (.ref r :: post) h = .ok v (((h.set r (PI now' p q)).set p (.lst P')).set q (.lst L')) := by
  rw [A.call f1, e]
  have e4 : renOs (bkI [r, p, q] h.length) [PI now' 1 2, .lst P', .lst L'] = some [PI now' p q, .lst P', .lst L'] := by
    simp [renOs, ren_PI fn' A.ba A.bb, renO_lst fP', renO_lst fL']
  simp only [back, ren_flat _ fv, backH, e4, A.mix, List.length_cons, List.length_nil, Nat.zero_add, List.drop_succ_cons, List.drop_zero, List.append_nil]
theorem At.app (G : Hs) : At (h ++ G) r p q now P L := by
  have lr : r < h.length := (List.getElem?_eq_some_iff.mp A.hr).1
  have lp : p < h.length := (List.getElem?_eq_some_iff.mp A.hp).1
  have lq : q < h.length := (List.getElem?_eq_some_iff.mp A.hq).1
  exact ⟨A.rp, A.rq, A.pq, by rw [List.getElem?_append_left lr]; exact A.hr, by rw [List.getElem?_append_left lp]; exact A.hp, by rw [List.getElem?_append_left lq]; exact A.hq, A.fn, A.fP, A.fL⟩
theorem At.insA : insAt (.ref r) h = some (r, [(("now" : Str), now), ("past", .ref p), ("later", .ref q)]) := by
  show (match h[r]? with | some (.ins c fs) => if c == 8 then some (r, fs) else none | _ => none : Option (Nat × List (Str × Va))) = _
  rw [A.hr]
  rfl
theorem At.ins (m : Str) (hm : m ≠ "now" ∧ m ≠ "past" ∧ m ≠ "later") : insOk m (.ref r) h = true := by
  have e1 : (m == ("now" : Str)) = false := by simpa using hm.1
  have e2 : (m == ("past" : Str)) = false := by simpa using hm.2.1
  have e3 : (m == ("later" : Str)) = false := by simpa using hm.2.2
  unfold insOk
  rw [A.insA]
  simp [List.lookup, e1, e2, e3]
end
/-- cleaning, told by what is reached -/
theorem clean_by {n0 : Nat} {live : List Nat} {s s1 s2 : Sg} {h obs : Hs} {m rs : List Nat} (hm : maskS live 0 s = s1) (hr : refsS s1 = rs) (he : List.range n0 ++ (reach 300 h (rs ++ (h.take n0).flatMap refsO) []).filter (fun i => decide (n0 ≤ i)) = m) (hn : nodupB m = true) (ho : selO m h m = some obs) (hs : renSl (idx m) s1 = some s2) :
    cleanS n0 live s h = some (s2, obs) := by
  unfold cleanS
  simp only [hm, hr, he]
  rw [if_pos hn, hs, ho]
theorem meth0_is {m : Str} {F : Fn} {i r : Nat} {s : Sg} {h : Hs} (hs : s[i]? = some (some (.ref r))) (hi : insOk m (.ref r) h = true) : dMeth0 m F (dVar i) s h = callD F [.ref r] h := by
  have hv : dVar i s h = .ok (.ref r) h := by unfold dVar; rw [hs]
  unfold dMeth0
  rw [hv]
  simp only [Rs.bind, hi, if_true]
theorem meth_is {m : Str} {F : Fn} {i r np : Nat} {s : Sg} {h : Hs} {fa : Da} {vs : List Va} (hs : s[i]? = some (some (.ref r))) (hi : insOk m (.ref r) h = true) (ha : fa s h = .ok vs h) (hn : (Va.ref r :: vs).length = np) : dMeth m F np (dVar i) fa s h = callD F (.ref r :: vs) h := by
  have hv : dVar i s h = .ok (.ref r) h := by unfold dVar; rw [hs]
  unfold dMeth
  rw [hv]
  simp only [Rs.bind, hi, if_true, ha, hn, beq_self_eq_true]
end Wr
set_option Elab.async false
set_option linter.all false
set_option maxRecDepth 100000
set_option maxHeartbeats 4000000
set_option autoImplicit false
namespace Wr
open PySem PySem.Spec PyProof.Rows L2
def fl1 (f : Str) (r : Rs Va) : Rs Va := r.bind fun x h1 => match insAt x h1 with
  | some (_, fs) => match fs.lookup f with
    | some v => .ok v h1
    | none => .no
  | none => .no
theorem u_fld (f : Str) (fo : De) (s : Sg) (h : Hs) : dFld f fo s h = fl1 f (fo s h) := rfl
theorem u_now (now : Va) (p q : Nat) (t : Hs) : fl1 "now" (.ok (.ref 0) (PI now p q :: t)) = .ok now (PI now p q :: t) := rfl
theorem u_past (now : Va) (p q : Nat) (t : Hs) : fl1 "past" (.ok (.ref 0) (PI now p q :: t)) = .ok (.ref p) (PI now p q :: t) := rfl
theorem u_later (now : Va) (p q : Nat) (t : Hs) : fl1 "later" (.ok (.ref 0) (PI now p q :: t)) = .ok (.ref q) (PI now p q :: t) := rfl
def fs2 (f : Str) (v : Va) (s : Sg) (r : Rs Va) : RS := r.bindS s fun x h2 => match insAt x h2 with
  | some (i, fs) => if decide (fs.length < 100) then .nx s (h2.set i (.ins 8 (putA f v fs))) else .no
  | none => .no
def fs1 (f : Str) (fo : De) (s : Sg) (r : Rs Va) : RS := r.bindS s fun v h1 => fs2 f v s (fo s h1)
theorem u_fldS (f : Str) (fo fv : De) (s : Sg) (h : Hs) : dFldS f fo fv s h = fs1 f fo s (fv s h) := rfl
theorem u_fs1 (f : Str) (fo : De) (s : Sg) (v : Va) (h : Hs) : fs1 f fo s (.ok v h) = fs2 f v s (fo s h) := rfl
theorem u_putN (now v : Va) (p q : Nat) (s : Sg) (t : Hs) : fs2 "now" v s (.ok (.ref 0) (PI now p q :: t)) = .nx s (PI v p q :: t) := rfl
theorem u_putL (now : Va) (p q k : Nat) (s : Sg) (t : Hs) : fs2 "later" (.ref k) s (.ok (.ref 0) (PI now p q :: t)) = .nx s (PI now p k :: t) := rfl
abbrev H3 (now : Va) (P L : List Va) : Hs := [PI now 1 2, .lst P, .lst L]
theorem at3 {now : Va} {P L : List Va} (fn : refsV now = []) (fP : refsVs P = []) (fL : refsVs L = []) : At (H3 now P L) 0 1 2 now P L := ⟨by decide, by decide, by decide, rfl, rfl, rfl, fn, fP, fL⟩
theorem compact4 {v now : Va} {P L : List Va} (fv : refsV v = []) (fn : refsV now = []) (fP : refsVs P = []) (fL : refsVs L = []) : compact 3 (.ok v [PI now 1 3, .lst P, .lst L, .lst []]) = .ok v [PI now 1 3, .lst P, .lst L, .lst []] := by
  have e : lastM 3 v [PI now 1 3, .lst P, .lst L, .lst []] = [0, 1, 2, 3] := by
    unfold lastM
    have e1 : refsV v ++ List.flatMap refsO (List.take 3 [PI now 1 3, Ob.lst P, .lst L, .lst []]) = [1, 3] := by
      rw [fv]
      simp only [List.take_succ_cons, List.take_zero, List.flatMap_cons, List.flatMap_nil, refs_PI fn, show refsO (.lst P) = [] from fP, show refsO (.lst L) = [] from fL]
      rfl
    rw [e1]
    have e2 : reach 300 [PI now 1 3, .lst P, .lst L, .lst []] [1, 3] [] = [1, 3] := reach_flat _ [1, 3] [] 300 (by decide) (by simp) (by decide) (fun r hr => by
      simp only [List.mem_cons, List.not_mem_nil, or_false] at hr
      rcases hr with rfl | rfl
      · exact ⟨_, rfl, fP⟩
      · exact ⟨_, rfl, rfl⟩)
    rw [e2]
    rfl
  unfold compact
  simp only [List.length_cons, List.length_nil, e]
  have i0 : idx [0, 1, 2, 3] 1 = some 1 := rfl
  have i3 : idx [0, 1, 2, 3] 3 = some 3 := rfl
  have so : selO [0, 1, 2, 3] [PI now 1 3, .lst P, .lst L, .lst []] [0, 1, 2, 3] = some [PI now 1 3, .lst P, .lst L, .lst []] := by
    simp [selO, ren_PI fn i0 i3, renO_lst fP, renO_lst fL, renO_lst (show refsVs [] = [] from rfl)]
  rw [ren_flat _ fv, so]
  rfl
end Wr
namespace Pg
open PySem PySem.Spec PyProof.Rows L2 Wr
section
variable {now : Va} {P L : List Va} (fn : refsV now = []) (fP : refsVs P = []) (fL : refsVs L = []) (hP : P.length ≤ 1000) (hL : L.length ≤ 1000)
include fn fP fL hP
theorem go_ok {st mk : Va} (fs : refsV st = []) (fm : refsV mk = []) : callD Poll_go [.ref 0, st, mk] (H3 now P L) = .ok .non [PI mk 1 3, .lst (P ++ [.tup [st, now]]), .lst L, .lst []] := by
  have fP' : refsVs (P ++ [.tup [st, now]]) = [] := by simp [refs_app, fP, refsVs, refsV, fs, fn]
  refine (at3 fn fP fL).go (by simp [refsVs, refsV, fs, fm]) rfl fm fP' ?_
  show compact 3 (toRs ((dSeq _ _) [some (.ref 0), some st, some mk] (H3 now P L))) = _
  have hz : P.length + 1 ≤ 16777216 := by omega
  have e : (dSeq (dExpr (dM "list" kAppend (dFld "past" (dVar 0)) (aCons (dTup (aCons (dVar 1) (aCons (dFld "now" (dVar 0)) aNil))) aNil)))
    (dSeq (dFldS "later" (dVar 0) (dLst aNil))
    (dFldS "now" (dVar 0) (dVar 2)))) [some (.ref 0), some st, some mk] (H3 now P L) = .nx [some (.ref 0), some st, some mk] [PI mk 1 3, .lst (P ++ [.tup [st, now]]), .lst L, .lst []] := by
    simp (maxSteps := 10000000) (disch := first | omega | (simp only [List.length_cons, List.length_nil, List.length_append, List.length_map] <;> omega) | (unfold CleanOK; with_unfolding_all rfl) | (with_unfolding_all rfl)) only [u_v0, u_vS, u_c, u_lft, u_op, u_op1, u_op2, u_test, u_tst, u_anil, u_acons, u_ac1, u_ac2, u_tup, u_tu1, u_lst, u_ls1, u_not, u_nt1, u_and, u_and1t, u_and1f, u_andv, u_andv1t, u_andv1f, u_or, u_or1t, u_or1f, u_orv, u_orv1t, u_orv1f, u_notv, u_nv1, u_ife, u_ife1t, u_ife1f, u_ifs, u_ifs1t, u_ifs1f, u_nx, u_ct, u_seq, u_then, u_then2, u_then3, u_drop, u_mask0, u_mask1, u_expr, u_ex1, u_ret, u_rt1, u_set, u_st1, u_call, u_ca1, u_call0, u_B, u_b1, u_chain, u_ch1, u_ch2, u_ch3t, u_ch3f, u_ch4, u_it, u_it1t, u_it1r, u_itR, u_zip, u_zi1tt, u_zi1tr, u_zi1rt, u_zi1rr, u_zi2, u_zi3, u_rng, u_rn1, u_nxtT, u_nxtL, u_nxL, u_nxtR, u_nxtZ, u_zz1, u_zz2, u_zz3, u_nxtE, u_ee1, u_ee2, u_lenT, u_lenL, u_lnL, u_lenR, u_lenZ, u_lenE, u_comp, u_co1, u_co2, u_w0, u_w1, u_compL, u_clA0, u_clA1, u_clB, u_clCt, u_clCf, u_clD, u_clE, u_yes, u_setN, u_set2, u_set3, u_asg, u_as1, u_as2, u_put, u_pu1, u_pu2, u_pu3, u_pu4, u_for, u_fo1, u_forS, u_fA, u_fB0, u_fB1, u_fC, u_con1, u_con2, u_con3, u_con4, u_M, u_me1, u_me2, u_me3, u_M2, u_mm1t, u_rev, u_rv1t, u_rv1r, u_rvL, u_newD, u_ixo, u_ixT, u_ixR, u_ixRl, u_ixRd, u_ixRf, u_gK1, u_atI, u_ixN, u_kLt, u_kLe, u_kGt, u_kGe, u_kSub, u_kAdd, u_mul, u_mulr, u_addT, u_addL, u_addL1, u_eq, u_ne, u_eq2t, u_eq2f, u_tdR, u_tdL, u_tdLL, u_tdTT, u_tdT, u_tdS0, u_tdS1, u_tdC, u_eqvB, u_eqvN, u_eqvNI, u_eqvIN, u_eqvNT, u_eqvTN, u_eqv01, u_eqv10, u_in, u_notin, u_in2lt, u_in2lf, u_in2tt, u_in2tf, u_any0, u_any1, u_lenTup, u_lenRef, u_lenR1, u_lst?, u_tupT, u_tupR, u_tpo, u_listT, u_listR, u_lso, u_intB, u_min2, u_ints?, u_ints0, u_ints1, u_icn, u_minR, u_min?, u_maxR, u_max?, u_srtR, u_srtT, u_srt?, u_sruR, u_sru?, u_sI0, u_sI1, u_iI0, u_iI1, u_sU0, u_sU1, u_iU0, u_iU1, u_sumR, u_sumT, u_sum?, u_bls?, u_bls0, u_bls1, u_bcn, u_allR, u_anyR, u_all?, u_any?, u_aB0, u_aB1, u_oB0, u_oB1, u_app, u_apL, u_ext, u_exL, u_isL, u_isL1, u_kput, u_puL, u_puN, u_puD, u_pk2, u_hasK0, u_hasK1, u_repK0, u_repK1, u_neg, u_ng1, u_whl, u_wh1t, u_wh1f, u_wh2, u_lock, u_lkA, u_lkB, u_lkC, u_lkD, u_keys, u_ke1, u_ke2, u_kys0, u_kys1, u_dt, u_df, u_ct1, u_ct2, u_g0, u_gS, u_gN, toD_non, toD_bl, toD_int, eqv_int, eqv_tup, eqv_lst, eqv_all0, eqv_all1, clean_flat, Option.bind_some, List.length_cons, List.length_nil, List.length_append, List.length_set, List.cons_append, List.nil_append, List.set_cons_zero, List.set_cons_succ, List.take_succ_cons, List.take_zero, List.map_cons, List.map_nil, List.reverse_cons, List.reverse_nil, List.contains_cons, List.contains_nil, Bool.true_or, Bool.or_true, Bool.false_or, Bool.or_false, Bool.true_and, Bool.and_true, Bool.false_and, Bool.and_false, Bool.not_true, Bool.not_false, if_pos, if_neg, List.sum_cons, List.sum_nil, decide_true, decide_false, beq_self_eq_true, Nat.reduceBEq, Int.reduceNeg, Nat.zero_add, Int.zero_add, Int.add_zero, Int.cast_ofNat_Int, Nat.reduceAdd, Nat.reduceSub, Nat.reduceLeDiff, Nat.lt_irrefl, Nat.reduceEqDiff, Int.reduceLT, Int.reduceLE, Int.reduceEq, Int.reduceAdd, Int.reduceSub, Int.reduceMul, Int.reduceToNat, ↓reduceIte, not_false_eq_true, not_true_eq_false, Int.zero_le_ofNat, Nat.min_eq_left, Nat.min_eq_right, u_fld, u_now, u_past, u_later, u_fldS, u_fs1, u_putN, u_putL]
  rw [e]
  exact compact4 rfl fm fP' fL
omit fn hP in
theorem pbook_ok : Poll_book [.ref 0] (H3 now P L) = .ok now (H3 now P L) := rfl
end
end Pg
set_option Elab.async false
set_option linter.all false
set_option maxRecDepth 100000
set_option maxHeartbeats 4000000
set_option autoImplicit false
namespace Pg
open PySem PySem.Spec PyProof.Rows L2 Wr
abbrev sAdd : Va := .str (Str.mk #[97, 100, 100])
abbrev sDrop : Va := .str (Str.mk #[100, 114, 111, 112])
abbrev sChg : Va := .str (Str.mk #[99, 104, 97, 110, 103, 101])
theorem seq_nx {f k : Ds} {s s1 : Sg} {h h1 : Hs} {r : RS} (e : f s h = .nx s1 h1) (q : k s1 h1 = r) : dSeq f k s h = r := by
  unfold dSeq
  rw [e]
  exact q
theorem kEq_int (i j : Int) (h : Hs) : kEq (.int i) (.int j) h = some (.bl (decide (i = j)), h) := by
  simp (maxSteps := 10000000) (disch := first | omega | (simp only [List.length_cons, List.length_nil, List.length_append, List.length_map] <;> omega) | (unfold CleanOK; with_unfolding_all rfl) | (with_unfolding_all rfl)) only [u_v0, u_vS, u_c, u_lft, u_op, u_op1, u_op2, u_test, u_tst, u_anil, u_acons, u_ac1, u_ac2, u_tup, u_tu1, u_lst, u_ls1, u_not, u_nt1, u_and, u_and1t, u_and1f, u_andv, u_andv1t, u_andv1f, u_or, u_or1t, u_or1f, u_orv, u_orv1t, u_orv1f, u_notv, u_nv1, u_ife, u_ife1t, u_ife1f, u_ifs, u_ifs1t, u_ifs1f, u_nx, u_ct, u_seq, u_then, u_then2, u_then3, u_drop, u_mask0, u_mask1, u_expr, u_ex1, u_ret, u_rt1, u_set, u_st1, u_call, u_ca1, u_call0, u_B, u_b1, u_chain, u_ch1, u_ch2, u_ch3t, u_ch3f, u_ch4, u_it, u_it1t, u_it1r, u_itR, u_zip, u_zi1tt, u_zi1tr, u_zi1rt, u_zi1rr, u_zi2, u_zi3, u_rng, u_rn1, u_nxtT, u_nxtL, u_nxL, u_nxtR, u_nxtZ, u_zz1, u_zz2, u_zz3, u_nxtE, u_ee1, u_ee2, u_lenT, u_lenL, u_lnL, u_lenR, u_lenZ, u_lenE, u_comp, u_co1, u_co2, u_w0, u_w1, u_compL, u_clA0, u_clA1, u_clB, u_clCt, u_clCf, u_clD, u_clE, u_yes, u_setN, u_set2, u_set3, u_asg, u_as1, u_as2, u_put, u_pu1, u_pu2, u_pu3, u_pu4, u_for, u_fo1, u_forS, u_fA, u_fB0, u_fB1, u_fC, u_con1, u_con2, u_con3, u_con4, u_M, u_me1, u_me2, u_me3, u_M2, u_mm1t, u_rev, u_rv1t, u_rv1r, u_rvL, u_newD, u_ixo, u_ixT, u_ixR, u_ixRl, u_ixRd, u_ixRf, u_gK1, u_atI, u_ixN, u_kLt, u_kLe, u_kGt, u_kGe, u_kSub, u_kAdd, u_mul, u_mulr, u_addT, u_addL, u_addL1, u_eq, u_ne, u_eq2t, u_eq2f, u_tdR, u_tdL, u_tdLL, u_tdTT, u_tdT, u_tdS0, u_tdS1, u_tdC, u_eqvB, u_eqvN, u_eqvNI, u_eqvIN, u_eqvNT, u_eqvTN, u_eqv01, u_eqv10, u_in, u_notin, u_in2lt, u_in2lf, u_in2tt, u_in2tf, u_any0, u_any1, u_lenTup, u_lenRef, u_lenR1, u_lst?, u_tupT, u_tupR, u_tpo, u_listT, u_listR, u_lso, u_intB, u_min2, u_ints?, u_ints0, u_ints1, u_icn, u_minR, u_min?, u_maxR, u_max?, u_srtR, u_srtT, u_srt?, u_sruR, u_sru?, u_sI0, u_sI1, u_iI0, u_iI1, u_sU0, u_sU1, u_iU0, u_iU1, u_sumR, u_sumT, u_sum?, u_bls?, u_bls0, u_bls1, u_bcn, u_allR, u_anyR, u_all?, u_any?, u_aB0, u_aB1, u_oB0, u_oB1, u_app, u_apL, u_ext, u_exL, u_isL, u_isL1, u_kput, u_puL, u_puN, u_puD, u_pk2, u_hasK0, u_hasK1, u_repK0, u_repK1, u_neg, u_ng1, u_whl, u_wh1t, u_wh1f, u_wh2, u_lock, u_lkA, u_lkB, u_lkC, u_lkD, u_keys, u_ke1, u_ke2, u_kys0, u_kys1, u_dt, u_df, u_ct1, u_ct2, u_g0, u_gS, u_gN, toD_non, toD_bl, toD_int, eqv_int, eqv_tup, eqv_lst, eqv_all0, eqv_all1, clean_flat, Option.bind_some, List.length_cons, List.length_nil, List.length_append, List.length_set, List.cons_append, List.nil_append, List.set_cons_zero, List.set_cons_succ, List.take_succ_cons, List.take_zero, List.map_cons, List.map_nil, List.reverse_cons, List.reverse_nil, List.contains_cons, List.contains_nil, Bool.true_or, Bool.or_true, Bool.false_or, Bool.or_false, Bool.true_and, Bool.and_true, Bool.false_and, Bool.and_false, Bool.not_true, Bool.not_false, if_pos, if_neg, List.sum_cons, List.sum_nil, decide_true, decide_false, beq_self_eq_true, Nat.reduceBEq, Int.reduceNeg, Nat.zero_add, Int.zero_add, Int.add_zero, Int.cast_ofNat_Int, Nat.reduceAdd, Nat.reduceSub, Nat.reduceLeDiff, Nat.lt_irrefl, Nat.reduceEqDiff, Int.reduceLT, Int.reduceLE, Int.reduceEq, Int.reduceAdd, Int.reduceSub, Int.reduceMul, Int.reduceToNat, ↓reduceIte, not_false_eq_true, not_true_eq_false, Int.zero_le_ofNat, Nat.min_eq_left, Nat.min_eq_right]
theorem if_f {t : Dt} {f k : Ds} {s : Sg} {h h1 : Hs} (e : t s h = .ok false h1) : dIfS t f k s h = k s h1 := by
  unfold dIfS
  rw [e]
  rfl
theorem if_t {t : Dt} {f k : Ds} {s : Sg} {h h1 : Hs} (e : t s h = .ok true h1) : dIfS t f k s h = f s h1 := by
  unfold dIfS
  rw [e]
  rfl
theorem tst_of {f : De} {s : Sg} {h h1 : Hs} {b : Bool} (e : f s h = .ok (.bl b) h1) : dTest f s h = .ok b h1 := by
  unfold dTest
  rw [e]
  rfl
theorem op_of {k : K2} {fa fb : De} {s : Sg} {h h1 h2 h3 : Hs} {x y v : Va} (e1 : fa s h = .ok x h1) (e2 : fb s h1 = .ok y h2) (e3 : k x y h2 = some (v, h3)) : dOp k fa fb s h = .ok v h3 := by
  unfold dOp
  rw [e1]
  simp only [Rs.bind]
  rw [e2]
  simp only [Rs.bind]
  rw [e3]
  rfl
theorem fnD_rt {n : Nat} {b : Ds} {args : List Va} {h : Hs} {s : Sg} {v : Va} {h1 : Hs} (hs : args.map some ++ List.replicate (n - args.length) none = s) (e : b s h = .rt v h1) : fnD n b args h = compact h.length (.ok v h1) := by
  unfold fnD
  rw [hs, e]
  rfl
theorem fnD_ex {n : Nat} {b : Ds} {args : List Va} {h : Hs} {s s1 : Sg} {c : Nat} {h1 : Hs} (hs : args.map some ++ List.replicate (n - args.length) none = s) (e : b s h = .ex c s1 h1) : fnD n b args h = .ex c h1 := by
  unfold fnD
  rw [hs, e]
  rfl
theorem seq_ex {f k : Ds} {s s1 : Sg} {h h1 : Hs} {c : Nat} (e : f s h = .ex c s1 h1) : dSeq f k s h = .ex c s1 h1 := by
  unfold dSeq
  rw [e]
theorem expr_call {F : Fn} {n : Nat} {fa : Da} {s : Sg} {h h1 : Hs} {vs : List Va} {v : Va} (ha : fa s h = .ok vs h) (hn : vs.length = n) (e : callD F vs h = .ok v h1) : dExpr (dCall F n fa) s h = .nx s h1 := by
  unfold dExpr dCall
  rw [ha]
  simp only [Rs.bind, hn, beq_self_eq_true, if_true, e, Rs.bindS]
theorem set_call {F : Fn} {n i : Nat} {fa : Da} {s : Sg} {h h1 : Hs} {vs : List Va} {v : Va} (ha : fa s h = .ok vs h) (hn : vs.length = n) (e : callD F vs h = .ok v h1) : dSet i (dCall F n fa) s h = .nx (s.set i (some v)) h1 := by
  unfold dSet dCall
  rw [ha]
  simp only [Rs.bind, hn, beq_self_eq_true, if_true, e, Rs.bindS]
theorem expr_callx {F : Fn} {n c : Nat} {fa : Da} {s : Sg} {h h1 : Hs} {vs : List Va} (ha : fa s h = .ok vs h) (hn : vs.length = n) (e : callD F vs h = .ex c h1) : dExpr (dCall F n fa) s h = .ex c s h1 := by
  unfold dExpr dCall
  rw [ha]
  simp only [Rs.bind, hn, beq_self_eq_true, if_true, e, Rs.bindS]
theorem set_callx {F : Fn} {n i c : Nat} {fa : Da} {s : Sg} {h h1 : Hs} {vs : List Va} (ha : fa s h = .ok vs h) (hn : vs.length = n) (e : callD F vs h = .ex c h1) : dSet i (dCall F n fa) s h = .ex c s h1 := by
  unfold dSet dCall
  rw [ha]
  simp only [Rs.bind, hn, beq_self_eq_true, if_true, e, Rs.bindS]
def Poll_add_0 : Ds := (dExpr (dCall look_number 1 (aCons (dVar 1) aNil)))
def Poll_add_1 : Ds := (dIfS (dTest (dOp kEq (dOp kIxU (dFld "now" (dVar 0)) (dVar 1)) (dC c_GREATEST))) (dRaise 1) dNx)
def Poll_add_2 : Ds := (dSet 2 (dOp kAdd (dOp kAdd (dSl (dFld "now" (dVar 0)) oNone (oSome (dVar 1))) (dTup (aCons (dOp kAdd (dOp kIxU (dFld "now" (dVar 0)) (dVar 1)) (dC (.int 1))) aNil))) (dSl (dFld "now" (dVar 0)) (oSome (dOp kAdd (dVar 1) (dC (.int 1)))) oNone)))
def Poll_add_3 : Ds := (dExpr (dMeth "go" Poll_go 3 (dVar 0) (aCons (dTup (aCons (dC (.str (Str.mk #[97, 100, 100]))) (aCons (dVar 1) aNil))) (aCons (dVar 2) aNil))))
def Poll_add_4 : Ds := (dRet (dOp kIxU (dVar 2) (dVar 1)))
theorem Poll_add_is : Poll_add = fnD 3 (dSeq Poll_add_0 (dSeq Poll_add_1 (dSeq Poll_add_2 (dSeq Poll_add_3 Poll_add_4)))) := rfl
def Poll_drop_0 : Ds := (dSet 2 (dCall changed 3 (aCons (dFld "now" (dVar 0)) (aCons (dVar 1) (aCons (dVar 1) aNil)))))
def Poll_drop_1 : Ds := (dSet 2 (dOp kAdd (dOp kAdd (dSl (dVar 2) oNone (oSome (dVar 1))) (dTup (aCons (dOp kSub (dOp kIxU (dVar 2) (dVar 1)) (dC (.int 1))) aNil))) (dSl (dVar 2) (oSome (dOp kAdd (dVar 1) (dC (.int 1)))) oNone)))
def Poll_drop_2 : Ds := (dExpr (dMeth "go" Poll_go 3 (dVar 0) (aCons (dTup (aCons (dC (.str (Str.mk #[100, 114, 111, 112]))) (aCons (dVar 1) aNil))) (aCons (dVar 2) aNil))))
def Poll_drop_3 : Ds := (dRet (dOp kIxU (dVar 2) (dVar 1)))
theorem Poll_drop_is : Poll_drop = fnD 3 (dSeq Poll_drop_0 (dSeq Poll_drop_1 (dSeq Poll_drop_2 Poll_drop_3))) := rfl
def Poll_change_0 : Ds := (dSet 3 (dCall changed 3 (aCons (dFld "now" (dVar 0)) (aCons (dVar 1) (aCons (dVar 2) aNil)))))
def Poll_change_1 : Ds := (dExpr (dMeth "go" Poll_go 3 (dVar 0) (aCons (dTup (aCons (dC (.str (Str.mk #[99, 104, 97, 110, 103, 101]))) (aCons (dVar 1) (aCons (dVar 2) aNil)))) (aCons (dVar 3) aNil))))
def Poll_change_2 : Ds := (dRet (dOp kIxU (dVar 3) (dVar 2)))
theorem Poll_change_is : Poll_change = fnD 4 (dSeq Poll_change_0 (dSeq Poll_change_1 Poll_change_2)) := rfl
section
variable {P L : List Va} (fP : refsVs P = []) (fL : refsVs L = []) (hP : P.length ≤ 1000)
include fP fL hP
theorem go_st {now st mk : Va} (fn : refsV now = []) (fs : refsV st = []) (fm : refsV mk = []) {fa : Da} {s : Sg} (hs : s[0]? = some (some (.ref 0))) (ha : fa s (H3 now P L) = .ok [st, mk] (H3 now P L)) : dExpr (dMeth "go" Poll_go 3 (dVar 0) fa) s (H3 now P L) = .nx s [PI mk 1 3, .lst (P ++ [.tup [st, now]]), .lst L, .lst []] := by
  have z := meth_is (m := "go") (F := Poll_go) (np := 3) hs ((at3 fn fP fL).ins _ (by decide +kernel)) ha rfl
  unfold dExpr
  rw [z, go_ok fn fP fL hP fs fm]
  rfl
theorem flatP {st now : Va} (fs : refsV st = []) (fn : refsV now = []) : refsVs (P ++ [.tup [st, now]]) = [] := by simp [refs_app, fP, refsVs, refsV, fs, fn]
theorem add_loc (b : B6) (n : Nat) (hn : n < 6) (h9 : b.get n ≠ 99) : Poll_add [.ref 0, .int n] (H3 b.v P L) = .ok (.int (b.get n + 1)) [PI (b.inc n).v 1 3, .lst (P ++ [.tup [.tup [sAdd, .int n], b.v]]), .lst L, .lst []] := by
  have fb := refs_book b
  have fb2 := refs_book (b.inc n)
  have e0 : Poll_add_0 [some (.ref 0), some (.int n), none] (H3 b.v P L) = .nx [some (.ref 0), some (.int n), none] (H3 b.v P L) := expr_call (vs := [.int n]) rfl rfl (look_number_ok n hn _)
  have ix : dOp kIxU (dFld "now" (dVar 0)) (dVar 1) [some (.ref 0), some (.int n), none] (H3 b.v P L) = .ok (.int (b.get n)) (H3 b.v P L) := by
    obtain ⟨a, b, c, d, e, f⟩ := b
    rcases lt6 hn with rfl | rfl | rfl | rfl | rfl | rfl <;> kernel_rfl
  have e1 : Poll_add_1 [some (.ref 0), some (.int n), none] (H3 b.v P L) = .nx [some (.ref 0), some (.int n), none] (H3 b.v P L) := by
    unfold Poll_add_1
    refine (if_f (tst_of (op_of ix (y := .int 99) (h2 := H3 b.v P L) rfl (h3 := H3 b.v P L) (v := .bl false) ?_))).trans rfl
    rw [kEq_int, decide_eq_false h9]
  have e2 : Poll_add_2 [some (.ref 0), some (.int n), none] (H3 b.v P L) = .nx [some (.ref 0), some (.int n), some (b.inc n).v] (H3 b.v P L) := by
    clear e0 e1 ix fb fb2 h9
    obtain ⟨a, b, c, d, e, f⟩ := b
    rcases lt6 hn with rfl | rfl | rfl | rfl | rfl | rfl <;> kernel_rfl
  have e3 : Poll_add_3 [some (.ref 0), some (.int n), some (b.inc n).v] (H3 b.v P L) = .nx [some (.ref 0), some (.int n), some (b.inc n).v] [PI (b.inc n).v 1 3, .lst (P ++ [.tup [.tup [sAdd, .int n], b.v]]), .lst L, .lst []] :=
    go_st fP fL hP (st := .tup [sAdd, .int n]) (mk := (b.inc n).v) fb rfl fb2 rfl rfl
  have e4 : Poll_add_4 [some (.ref 0), some (.int n), some (b.inc n).v] [PI (b.inc n).v 1 3, .lst (P ++ [.tup [.tup [sAdd, .int n], b.v]]), .lst L, .lst []] = .rt (.int (b.get n + 1)) [PI (b.inc n).v 1 3, .lst (P ++ [.tup [.tup [sAdd, .int n], b.v]]), .lst L, .lst []] := by
    clear e0 e1 e2 e3 ix fb fb2 h9
    obtain ⟨a, b, c, d, e, f⟩ := b
    rcases lt6 hn with rfl | rfl | rfl | rfl | rfl | rfl <;> kernel_rfl
  rw [Poll_add_is, fnD_rt (s := [some (.ref 0), some (.int n), none]) rfl (seq_nx e0 (seq_nx e1 (seq_nx e2 (seq_nx e3 e4))))]
  exact compact4 rfl fb2 (flatP fP fL hP rfl fb) fL
theorem drop_loc (b : B6) (hb : b.ok1) (n : Nat) (hn : n < 6) (hp : 0 < b.get n) : Poll_drop [.ref 0, .int n] (H3 b.v P L) = .ok (.int (b.get n - 1)) [PI (b.dec n).v 1 3, .lst (P ++ [.tup [.tup [sDrop, .int n], b.v]]), .lst L, .lst []] := by
  have fb := refs_book b
  have fb2 := refs_book (b.dec n)
  have cs : b.chg n n = b := by
    obtain ⟨a, b, c, d, e, f⟩ := b
    rcases lt6 hn with rfl | rfl | rfl | rfl | rfl | rfl <;> simp [B6.chg, B6.dec, B6.inc]
  have e0 : Poll_drop_0 [some (.ref 0), some (.int n), none] (H3 b.v P L) = .nx [some (.ref 0), some (.int n), some b.v] (H3 b.v P L) := by
    refine set_call (vs := [b.v, .int n, .int n]) rfl rfl ?_
    have := changed_ok b hb n n hn hn hp (H3 b.v P L)
    rwa [cs] at this
  have e1 : Poll_drop_1 [some (.ref 0), some (.int n), some b.v] (H3 b.v P L) = .nx [some (.ref 0), some (.int n), some (b.dec n).v] (H3 b.v P L) := by
    clear e0 fb fb2 hb hp cs
    obtain ⟨a, b, c, d, e, f⟩ := b
    rcases lt6 hn with rfl | rfl | rfl | rfl | rfl | rfl <;> kernel_rfl
  have e3 : Poll_drop_2 [some (.ref 0), some (.int n), some (b.dec n).v] (H3 b.v P L) = .nx [some (.ref 0), some (.int n), some (b.dec n).v] [PI (b.dec n).v 1 3, .lst (P ++ [.tup [.tup [sDrop, .int n], b.v]]), .lst L, .lst []] :=
    go_st fP fL hP (st := .tup [sDrop, .int n]) (mk := (b.dec n).v) fb rfl fb2 rfl rfl
  have e4 : Poll_drop_3 [some (.ref 0), some (.int n), some (b.dec n).v] [PI (b.dec n).v 1 3, .lst (P ++ [.tup [.tup [sDrop, .int n], b.v]]), .lst L, .lst []] = .rt (.int (b.get n - 1)) [PI (b.dec n).v 1 3, .lst (P ++ [.tup [.tup [sDrop, .int n], b.v]]), .lst L, .lst []] := by
    clear e0 e1 e3 fb fb2 hb hp cs
    obtain ⟨a, b, c, d, e, f⟩ := b
    rcases lt6 hn with rfl | rfl | rfl | rfl | rfl | rfl <;> kernel_rfl
  rw [Poll_drop_is, fnD_rt (s := [some (.ref 0), some (.int n), none]) rfl (seq_nx e0 (seq_nx e1 (seq_nx e3 e4)))]
  exact compact4 rfl fb2 (flatP fP fL hP rfl fb) fL
theorem chg_loc (b : B6) (hb : b.ok1) (n o : Nat) (hn : n < 6) (ho : o < 6) (hp : 0 < b.get n) : Poll_change [.ref 0, .int n, .int o] (H3 b.v P L) = .ok (.int ((b.chg n o).get o)) [PI (b.chg n o).v 1 3, .lst (P ++ [.tup [.tup [sChg, .int n, .int o], b.v]]), .lst L, .lst []] := by
  have fb := refs_book b
  have fb2 := refs_book (b.chg n o)
  have e0 : Poll_change_0 [some (.ref 0), some (.int n), some (.int o), none] (H3 b.v P L) = .nx [some (.ref 0), some (.int n), some (.int o), some (b.chg n o).v] (H3 b.v P L) :=
    set_call (vs := [b.v, .int n, .int o]) rfl rfl (changed_ok b hb n o hn ho hp (H3 b.v P L))
  have e3 : Poll_change_1 [some (.ref 0), some (.int n), some (.int o), some (b.chg n o).v] (H3 b.v P L) = .nx [some (.ref 0), some (.int n), some (.int o), some (b.chg n o).v] [PI (b.chg n o).v 1 3, .lst (P ++ [.tup [.tup [sChg, .int n, .int o], b.v]]), .lst L, .lst []] :=
    go_st fP fL hP (st := .tup [sChg, .int n, .int o]) (mk := (b.chg n o).v) fb rfl fb2 rfl rfl
  have e4 : Poll_change_2 [some (.ref 0), some (.int n), some (.int o), some (b.chg n o).v] [PI (b.chg n o).v 1 3, .lst (P ++ [.tup [.tup [sChg, .int n, .int o], b.v]]), .lst L, .lst []] = .rt (.int ((b.chg n o).get o)) [PI (b.chg n o).v 1 3, .lst (P ++ [.tup [.tup [sChg, .int n, .int o], b.v]]), .lst L, .lst []] := by
    clear e0 e3 fb fb2 hb hp
    generalize b.chg n o = b2
    obtain ⟨a, b, c, d, e, f⟩ := b2
    rcases lt6 ho with rfl | rfl | rfl | rfl | rfl | rfl <;> kernel_rfl
  rw [Poll_change_is, fnD_rt (s := [some (.ref 0), some (.int n), some (.int o), none]) rfl (seq_nx e0 (seq_nx e3 e4))]
  exact compact4 rfl fb2 (flatP fP fL hP rfl fb) fL
end
end Pg
set_option Elab.async false
set_option linter.all false
set_option maxRecDepth 100000
set_option maxHeartbeats 4000000
set_option autoImplicit false
namespace Pg
open PySem PySem.Spec PyProof.Rows L2 Wr
theorem callD_fx {F : Fn} {args : List Va} {c : Nat} (ha : refsVs args = []) (e : F args [] = .ex c []) (h : Hs) : callD F args h = .ex c h := by
  have r0 : reach 300 h (refsVs args) [] = [] := by rw [ha, reach_nil]
  unfold callD
  simp only [r0]
  rw [if_pos (show nodupB [] = true from rfl), rens_flat _ ha, show selO [] h [] = some [] from rfl]
  simp only [e, back, backH, renOs, mixNil, List.drop_nil, List.append_nil]
theorem look6 (h : Hs) : callD look_number [.int 6] h = .ex 4 h := callD_fx rfl (by kernel_rfl) h
def chd_0 : Ds := (dExpr (dCall look_book 1 (aCons (dVar 0) aNil)))
def chd_1 : Ds := (dExpr (dCall look_number 1 (aCons (dVar 1) aNil)))
def chd_2 : Ds := (dExpr (dCall look_number 1 (aCons (dVar 2) aNil)))
def chd_3 : Ds := (dIfS (dTest (dOp kEq (dOp kIxU (dVar 0) (dVar 1)) (dC (.int 0)))) (dRaise 4) dNx)
def chd_4 : Ds := (dSet 3 (dCall changed_to 3 (aCons (dVar 0) (aCons (dVar 1) (aCons (dVar 2) aNil)))))
def chd_5 : Ds := (dExpr (dCall look_book 1 (aCons (dVar 3) aNil)))
def chd_6 : Ds := (dRet (dVar 3))
theorem changed_is : changed = fnD 4 (dSeq chd_0 (dSeq chd_1 (dSeq chd_2 (dSeq chd_3 (dSeq chd_4 (dSeq chd_5 chd_6)))))) := rfl
theorem changed_x (b : B6) (hb : b.ok) (n o : Nat) (hn : n < 7) (ho : o < 6) (hx : n = 6 ∨ b.get n = 0) (h : Hs) : callD changed [b.v, .int n, .int o] h = .ex 4 h := by
  refine callD_fx (by simp [refsVs, refsV, refs_book]) ?_ h
  have e0 : chd_0 [some b.v, some (.int n), some (.int o), none] [] = .nx [some b.v, some (.int n), some (.int o), none] [] := expr_call (vs := [b.v]) rfl rfl (lookB b hb _)
  rw [changed_is]
  by_cases h6 : n = 6
  · subst h6
    exact fnD_ex (s := [some b.v, some (.int (6 : Nat)), some (.int o), none]) rfl (s1 := [some b.v, some (.int (6 : Nat)), some (.int o), none]) (seq_nx e0 (seq_ex (expr_callx (vs := [.int 6]) rfl rfl (look6 _))))
  · have hn6 : n < 6 := by omega
    have hz : b.get n = 0 := hx.resolve_left h6
    have e1 : chd_1 [some b.v, some (.int n), some (.int o), none] [] = .nx [some b.v, some (.int n), some (.int o), none] [] := expr_call (vs := [.int n]) rfl rfl (look_number_ok n hn6 _)
    have e2 : chd_2 [some b.v, some (.int n), some (.int o), none] [] = .nx [some b.v, some (.int n), some (.int o), none] [] := expr_call (vs := [.int o]) rfl rfl (look_number_ok o ho _)
    have ix : dOp kIxU (dVar 0) (dVar 1) [some b.v, some (.int n), some (.int o), none] [] = .ok (.int (b.get n)) [] := by
      clear e0 e1 e2 hx hz
      obtain ⟨a, b, c, d, e, f⟩ := b
      rcases lt6 hn6 with rfl | rfl | rfl | rfl | rfl | rfl <;> kernel_rfl
    have e3 : chd_3 [some b.v, some (.int n), some (.int o), none] [] = .ex 4 [some b.v, some (.int n), some (.int o), none] [] := by
      unfold chd_3
      refine (if_t (tst_of (op_of ix (y := .int 0) (h2 := []) rfl (h3 := []) (v := .bl true) ?_))).trans rfl
      rw [kEq_int, decide_eq_true hz]
    exact fnD_ex (s := [some b.v, some (.int n), some (.int o), none]) rfl (seq_nx e0 (seq_nx e1 (seq_nx e2 (seq_ex e3))))
theorem add_x (now : Va) (P L : List Va) : Poll_add [.ref 0, .int 6] (H3 now P L) = .ex 4 (H3 now P L) := by
  rw [Poll_add_is]
  exact fnD_ex (s := [some (.ref 0), some (.int 6), none]) rfl (seq_ex (expr_callx (vs := [.int 6]) rfl rfl (look6 _)))
theorem drop_x (b : B6) (hb : b.ok) (n : Nat) (hn : n < 7) (hx : n = 6 ∨ b.get n = 0) (P L : List Va) : Poll_drop [.ref 0, .int n] (H3 b.v P L) = .ex 4 (H3 b.v P L) := by
  have : ∀ o : Nat, o = n → callD changed [b.v, .int n, .int o] (H3 b.v P L) = .ex 4 (H3 b.v P L) := fun o ho => by
    subst ho
    by_cases h6 : o = 6
    · subst h6
      refine callD_fx (by simp [refsVs, refsV, refs_book]) ?_ _
      rw [changed_is]
      exact fnD_ex (s := [some b.v, some (.int (6 : Nat)), some (.int (6 : Nat)), none]) rfl (s1 := [some b.v, some (.int (6 : Nat)), some (.int (6 : Nat)), none]) (seq_nx (show chd_0 _ _ = _ from expr_call (vs := [b.v]) rfl rfl (lookB b hb _)) (seq_ex (expr_callx (vs := [.int 6]) rfl rfl (look6 _))))
    · exact changed_x b hb o o hn (by omega) hx _
  rw [Poll_drop_is]
  exact fnD_ex (s := [some (.ref 0), some (.int n), none]) rfl (seq_ex (set_callx (vs := [b.v, .int n, .int n]) rfl rfl (this n rfl)))
theorem chg_x (b : B6) (hb : b.ok) (n o : Nat) (hn : n < 7) (ho : o < 6) (hx : n = 6 ∨ b.get n = 0) (P L : List Va) : Poll_change [.ref 0, .int n, .int o] (H3 b.v P L) = .ex 4 (H3 b.v P L) := by
  rw [Poll_change_is]
  exact fnD_ex (s := [some (.ref 0), some (.int n), some (.int o), none]) rfl (seq_ex (set_callx (vs := [b.v, .int n, .int o]) rfl rfl (changed_x b hb n o hn ho hx _)))
def PV (ps : List (Va × Va)) : List Va := ps.map fun x => .tup [x.1, x.2]
theorem PV_app (ps : List (Va × Va)) (x : Va × Va) : PV (ps ++ [x]) = PV ps ++ [.tup [x.1, x.2]] := by simp [PV]
structure Okp (ps : List (Va × Va)) : Prop where
  few : ps.length ≤ 200
  fl : ∀ x ∈ ps, refsV x.1 = [] ∧ refsV x.2 = []
  lk : ∀ x ∈ ps, ∀ H, Like H 7 x.1 ∧ Like H 7 x.2
theorem Okp.nil : Okp [] := ⟨by simp, (fun x hx => nomatch hx), (fun x hx => nomatch hx)⟩
theorem Okp.snoc {ps : List (Va × Va)} (h : Okp ps) {x : Va × Va} (hl : ps.length < 200) (f1 : refsV x.1 = []) (f2 : refsV x.2 = []) (k1 : ∀ H, Like H 7 x.1) (k2 : ∀ H, Like H 7 x.2) : Okp (ps ++ [x]) := by
  refine ⟨by simp; omega, fun y hy => ?_, fun y hy H => ?_⟩
  · rcases List.mem_append.mp hy with q | q
    · exact h.fl y q
    · rw [List.mem_singleton.mp q]; exact ⟨f1, f2⟩
  · rcases List.mem_append.mp hy with q | q
    · exact h.lk y q H
    · rw [List.mem_singleton.mp q]; exact ⟨k1 H, k2 H⟩
theorem Okp.init {ps : List (Va × Va)} {x : Va × Va} (h : Okp (ps ++ [x])) : Okp ps := ⟨by have := h.few; simp at this; omega, fun y hy => h.fl y (List.mem_append_left _ hy), fun y hy => h.lk y (List.mem_append_left _ hy)⟩
theorem Okp.pv {ps : List (Va × Va)} (h : Okp ps) : refsVs (PV ps) = [] := by
  have : ∀ l : List (Va × Va), (∀ x ∈ l, refsV x.1 = [] ∧ refsV x.2 = []) → refsVs (PV l) = [] := fun l => by
    induction l with
    | nil => intro _; rfl
    | cons x l ih =>
      intro hl
      have hx := hl x (by simp)
      show refsV (.tup [x.1, x.2]) ++ refsVs (PV l) = []
      rw [ih fun y hy => hl y (by simp [hy])]
      simp [refsV, refsVs, hx.1, hx.2]
  exact this ps h.fl
theorem Okp.st {ps : List (Va × Va)} (h : Okp ps) : refsVs (ps.map (·.1)) = [] := by
  have : ∀ l : List (Va × Va), (∀ x ∈ l, refsV x.1 = [] ∧ refsV x.2 = []) → refsVs (l.map (·.1)) = [] := fun l => by
    induction l with
    | nil => intro _; rfl
    | cons x l ih =>
      intro hl
      show refsV x.1 ++ refsVs (l.map (·.1)) = []
      rw [(hl x (by simp)).1, ih fun y hy => hl y (by simp [hy])]
      rfl
  exact this ps h.fl
theorem Okp.len {ps : List (Va × Va)} : (PV ps).length = ps.length := by simp [PV]
theorem kEq_some {h : Hs} {r k : Nat} {P : List Va} (hr : h[r]? = some (.lst P)) (hk : h[k]? = some (.lst [])) (hl : P ≠ []) (lk : ∀ v ∈ P, Like h 8 v) : kEq (.ref r) (.ref k) h = some (.bl false, h) := by
  obtain ⟨ds, e1, e2⟩ := tdS_like P lk
  have hd : ds ≠ [] := fun z => by
    subst z
    cases P with
    | nil => exact hl rfl
    | cons x l =>
      rw [u_tdS1] at e1
      obtain ⟨d, e3, _⟩ := lk x (by simp)
      rw [e3] at e1
      cases q : tdS h 8 l with
      | none => rw [q] at e1; cases e1
      | some z => rw [q] at e1; cases e1
  rw [u_eq, u_tdR, u_tdR, hr, hk, u_tdL, u_tdL, e1, show tdS h 8 [] = some [] from rfl, u_tdLL, u_tdLL, u_eq2t, eqv_lst]
  cases ds with
  | nil => exact absurd rfl hd
  | cons d ds => simp [PyData.eqvAll]
theorem compact6 {now : Va} {P L ys : List Va} (fn : refsV now = []) (fP : refsVs P = []) (fL : refsVs L = []) (fy : refsVs ys = []) : compact 3 (.ok (.ref 3) [PI now 1 2, .lst P, .lst L, .lst ys]) = .ok (.ref 3) [PI now 1 2, .lst P, .lst L, .lst ys] := by
  have e : lastM 3 (.ref 3) [PI now 1 2, .lst P, .lst L, .lst ys] = [0, 1, 2, 3] := by
    unfold lastM
    have e1 : refsV (.ref 3) ++ List.flatMap refsO (List.take 3 [PI now 1 2, Ob.lst P, .lst L, .lst ys]) = [3, 1, 2] := by
      simp only [List.take_succ_cons, List.take_zero, List.flatMap_cons, List.flatMap_nil, refs_PI fn, show refsO (.lst P) = [] from fP, show refsO (.lst L) = [] from fL, refsV]
      rfl
    rw [e1]
    have e2 : reach 300 [PI now 1 2, .lst P, .lst L, .lst ys] [3, 1, 2] [] = [3, 1, 2] := reach_flat _ [3, 1, 2] [] 300 (by decide) (by simp) (by decide) (fun r hr => by
      simp only [List.mem_cons, List.not_mem_nil, or_false] at hr
      rcases hr with rfl | rfl | rfl
      · exact ⟨_, rfl, fy⟩
      · exact ⟨_, rfl, fP⟩
      · exact ⟨_, rfl, fL⟩)
    rw [e2]
    rfl
  unfold compact
  simp only [List.length_cons, List.length_nil, e]
  have i0 : idx [0, 1, 2, 3] 1 = some 1 := rfl
  have i3 : idx [0, 1, 2, 3] 2 = some 2 := rfl
  have so : selO [0, 1, 2, 3] [PI now 1 2, .lst P, .lst L, .lst ys] [0, 1, 2, 3] = some [PI now 1 2, .lst P, .lst L, .lst ys] := by
    simp [selO, ren_PI fn i0 i3, renO_lst fP, renO_lst fL, renO_lst fy]
  rw [so]
  rfl
section
variable {now : Va} (fn : refsV now = []) {ps ls : List (Va × Va)} (okP : Okp ps) (okL : Okp ls)
include fn okP okL
theorem steps_loc : Poll_steps [.ref 0] (H3 now (PV ps) (PV ls)) = .ok (.ref 3) [PI now 1 2, .lst (PV ps), .lst (PV ls), .lst (ps.map (·.1))] := by
  have c := compI (it := .lst 1) (n := ps.length) (z := fun i => .tup [(ps.getD i (.non, .non)).1, (ps.getD i (.non, .non)).2]) (t := .tp [1, 2]) (test := dYes) (el := dVar 1) (s := [some (.ref 0), none, none]) (h := H3 now (PV ps) (PV ls)) (p := fun _ => true) (e := fun i => (ps.getD i (.non, .non)).1)
    (fun i hi => by
      show some ((PV ps)[i]?) = _
      rw [show (PV ps)[i]? = some (.tup [(ps.getD i (.non, .non)).1, (ps.getD i (.non, .non)).2]) from by simp [PV, List.getElem?_eq_getElem hi, List.getD_eq_getElem?_getD]])
    (by
      show some ((PV ps)[ps.length]?) = _
      rw [List.getElem?_eq_none (by rw [Okp.len]; exact Nat.le_refl _)])
    (fun i hi => ⟨[some (.ref 0), some (ps.getD i (.non, .non)).1, some (ps.getD i (.non, .non)).2], rfl, rfl, fun _ => rfl⟩)
    (ps.length + 1) 0 (by omega) (by omega)
  have e2 : ((List.range' 0 (ps.length - 0)).filter fun _ => true).map (fun i => (ps.getD i (.non, .non)).1) = ps.map (·.1) := by
    rw [List.filter_eq_self.mpr (fun _ _ => rfl), Nat.sub_zero, ← List.range_eq_range']
    apply List.ext_getElem?
    intro i
    rw [List.getElem?_map, List.getElem?_map]
    by_cases hi : i < ps.length
    · rw [List.getElem?_range hi, List.getElem?_eq_getElem hi]
      simp [List.getD_eq_getElem?_getD, List.getElem?_eq_getElem hi]
    · rw [List.getElem?_eq_none (by simpa using hi), List.getElem?_eq_none (by simpa using hi)]
      rfl
  rw [e2] at c
  have hln : okN (ps.map (·.1)).length = true := by unfold okN; exact decide_eq_true (by have := okP.few; simp; omega)
  have e : (dRet (dComp [1, 2] (dIt (dFld "past" (dVar 0))) (.tp [1, 2]) dYes (dVar 1))) [some (.ref 0), none, none] (H3 now (PV ps) (PV ls)) = .rt (.ref 3) [PI now 1 2, .lst (PV ps), .lst (PV ls), .lst (ps.map (·.1))] := by
    unfold dRet dComp
    have hi : dIt (dFld "past" (dVar 0)) [some (.ref 0), none, none] (H3 now (PV ps) (PV ls)) = .ok (.lst 1) (H3 now (PV ps) (PV ls)) := by
      generalize PV ps = P
      generalize PV ls = L
      rfl
    rw [hi]
    simp only [Rs.bind]
    rw [show itLen (.lst 1) (H3 now (PV ps) (PV ls)) + 1 = ps.length + 1 from by show (PV ps).length + 1 = _; rw [Okp.len], show wipeS [some (.ref 0), none, none] [1, 2] = [some (.ref 0), none, none] from rfl, c]
    simp only [mkL, hln, if_true, Rs.bindS]
    rfl
  show compact 3 (toRs (dRet (dComp [1, 2] (dIt (dFld "past" (dVar 0))) (.tp [1, 2]) dYes (dVar 1)) [some (.ref 0), none, none] (H3 now (PV ps) (PV ls)))) = _
  rw [e]
  exact compact6 fn okP.pv okL.pv okP.st
end
end Pg
namespace Wr
open PySem PySem.Spec PyProof.Rows L2
/-- a loop with what holds at its head -/
theorem forC_inv {n0 : Nat} {live : List Nat} {t : Tg} {body : Ds} {N : Nat} {I : Nat → Sg → Hs → Prop} (step : ∀ j s h, j < N → I j s h → ∃ s1 s2 h2 s3 h3, setT t (.int j) s h = some s1 ∧ (body s1 h = .nx s2 h2 ∨ body s1 h = .ct s2 h2) ∧ cleanS n0 live s2 h2 = some (s3, h3) ∧ I (j + 1) s3 h3) :
    ∀ (f i : Nat) (s0 : Sg) (h0 : Hs), i + f = N + 1 → 0 < f → (∃ s h, cleanS n0 live s0 h0 = some (s, h) ∧ I i s h) → ∃ s3 h3, I N s3 h3 ∧ forC n0 live (.rng 0 N) t body f i s0 h0 = .nx s3 h3
  | 0, _, _, _, _, q, _ => absurd q (Nat.lt_irrefl 0)
  | f + 1, i, s0, h0, ef, _, ⟨s, h, c, hi⟩ => by
    unfold forC
    simp only [c]
    rw [u_nxtR]
    by_cases hj : i < N
    · rw [decide_eq_true hj, cond_true]
      obtain ⟨s1, s2, h2, s3, h3, a1, a2, a3, a4⟩ := step i s h hj hi
      have e0 : (0 : Int) + (i : Int) = (i : Int) := by omega
      simp only [e0, a1]
      obtain ⟨s4, h4, b1, b2⟩ := forC_inv step f (i + 1) s2 h2 (by omega) (by omega) ⟨s3, h3, a3, a4⟩
      rcases a2 with a2 | a2
      · simp only [a2]
        exact ⟨s4, h4, b1, b2⟩
      · simp only [a2]
        exact ⟨s4, h4, b1, b2⟩
    · have : i = N := by omega
      subst this
      rw [decide_eq_false (Nat.lt_irrefl _), cond_false]
      exact ⟨s, h, hi, rfl⟩
theorem forT_inv {live : List Nat} {t : Tg} {body : Nat → Ds} {di : Di} {N : Nat} {I : Nat → Sg → Hs → Prop} {s : Sg} {h h1 : Hs} (hi : di s h = .ok (.rng 0 N) h1) (hc : ∃ s0 h0, cleanS h1.length live s h1 = some (s0, h0) ∧ I 0 s0 h0)
    (step : ∀ j s h, j < N → I j s h → ∃ s1 s2 h2 s3 h3, setT t (.int j) s h = some s1 ∧ (body h1.length s1 h = .nx s2 h2 ∨ body h1.length s1 h = .ct s2 h2) ∧ cleanS h1.length live s2 h2 = some (s3, h3) ∧ I (j + 1) s3 h3) : ∃ s3 h3, I N s3 h3 ∧ dForT live di t body s h = .nx s3 h3 := by
  rw [y_forT, hi, y_foT, u_lenR]
  exact forC_inv step (N + 1) 0 s h1 (by omega) (by omega) hc
end Wr
set_option Elab.async false
set_option linter.all false
set_option maxRecDepth 100000
set_option maxHeartbeats 4000000
set_option autoImplicit false
namespace Pg
open PySem PySem.Spec PyProof.Rows L2 Wr
inductive Dd where
  | add (n : Nat) | drop (n : Nat) | chg (n o : Nat)
def Dd.v : Dd → Va
  | .add n => .tup [sAdd, .int n]
  | .drop n => .tup [sDrop, .int n]
  | .chg n o => .tup [sChg, .int n, .int o]
def Dd.ok : Dd → Prop
  | .add n => n < 7
  | .drop n => n < 7
  | .chg n o => n < 7 ∧ o < 6
def Dd.no (b : B6) : Dd → Prop
  | .add n => n = 6
  | .drop n => n = 6 ∨ b.get n = 0
  | .chg n _ => n = 6 ∨ b.get n = 0
instance (b : B6) (d : Dd) : Decidable (d.no b) := by cases d <;> unfold Dd.no <;> infer_instance
def Dd.to (b : B6) : Dd → B6
  | .add n => b.inc n
  | .drop n => b.dec n
  | .chg n o => b.chg n o
def Dd.told (b : B6) : Dd → Int
  | .add n => b.get n + 1
  | .drop n => b.get n - 1
  | .chg n o => (b.chg n o).get o
def Dd.w : Dd → Va
  | .add _ => sAdd
  | .drop _ => sDrop
  | .chg _ _ => sChg
theorem Dd.flat (d : Dd) : refsV d.v = [] := by cases d <;> rfl
def sNT : Va := .str (Str.mk #[110, 111, 32, 116, 104, 105, 110, 103])
def Dd.due (b : B6) (d : Dd) : Va := if d.no b then sNT else .int (d.told b)
def Dd.nx (b : B6) (d : Dd) : B6 := if d.no b then b else d.to b
/-- at most k of each wish -/
def B6.le (b : B6) (k : Int) : Prop := (0 ≤ b.a ∧ b.a ≤ k) ∧ (0 ≤ b.b ∧ b.b ≤ k) ∧ (0 ≤ b.c ∧ b.c ≤ k) ∧ (0 ≤ b.d ∧ b.d ≤ k) ∧ (0 ≤ b.e ∧ b.e ≤ k) ∧ (0 ≤ b.f ∧ b.f ≤ k)
theorem B6.le.ok1 {b : B6} {k : Int} (h : b.le k) (hk : k ≤ 98) : b.ok1 := by unfold B6.le at h; unfold B6.ok1; omega
theorem B6.le.get {b : B6} {k : Int} (h : b.le k) (n : Nat) : 0 ≤ b.get n ∧ b.get n ≤ k := by
  unfold B6.le at h
  unfold B6.get
  split <;> omega
theorem B6.le.nx {b : B6} {k : Int} (h : b.le k) (d : Dd) (hd : d.ok) : (d.nx b).le (k + 1) := by
  unfold Dd.nx
  split
  · unfold B6.le at *; omega
  · rename_i hn
    cases d with
    | add n =>
      simp only [Dd.no, Dd.ok] at hn hd
      rcases lt6 (show n < 6 by omega) with rfl | rfl | rfl | rfl | rfl | rfl <;> simp only [B6.le, Dd.to, B6.inc] at * <;> omega
    | drop n =>
      simp only [Dd.no, Dd.ok, not_or] at hn hd
      rcases lt6 (show n < 6 by omega) with rfl | rfl | rfl | rfl | rfl | rfl <;> simp only [B6.le, Dd.to, B6.dec, B6.get] at * <;> omega
    | chg n o =>
      simp only [Dd.no, Dd.ok, not_or] at hn hd
      rcases lt6 (show n < 6 by omega) with rfl | rfl | rfl | rfl | rfl | rfl <;> rcases lt6 hd.2 with rfl | rfl | rfl | rfl | rfl | rfl <;> simp only [B6.le, Dd.to, B6.chg, B6.dec, B6.inc, B6.get] at * <;> omega
theorem and_f {t u : Dt} {s : Sg} {h h1 : Hs} (e : t s h = .ok false h1) : dAnd t u s h = .ok false h1 := by
  unfold dAnd
  rw [e]
  rfl
theorem and_t {t u : Dt} {s : Sg} {h h1 : Hs} (e : t s h = .ok true h1) : dAnd t u s h = u s h1 := by
  unfold dAnd
  rw [e]
  simp only [Rs.bind]
theorem or_t {t u : Dt} {s : Sg} {h h1 : Hs} (e : t s h = .ok true h1) : dOr t u s h = .ok true h1 := by
  unfold dOr
  rw [e]
  rfl
theorem or_f {t u : Dt} {s : Sg} {h h1 : Hs} (e : t s h = .ok false h1) : dOr t u s h = u s h1 := by
  unfold dOr
  rw [e]
  simp only [Rs.bind]
theorem seq_rt {f k : Ds} {s : Sg} {h h1 : Hs} {v : Va} (e : f s h = .rt v h1) : dSeq f k s h = .rt v h1 := by
  unfold dSeq
  rw [e]
end Pg
set_option Elab.async false
set_option linter.all false
set_option maxRecDepth 100000
set_option maxHeartbeats 4000000
set_option autoImplicit false
namespace Wr
open PySem PySem.Spec PyProof.Rows L2
theorem told_x {cl : List Nat} {wd : Nat → Str} {f : De} {s : Sg} {h h1 : Hs} {c : Nat} {w : Str} (e : f s h = .ex c h1) (hc : cl.contains (c % 100) = true) (hw : wd (c % 100) = w) : dTold cl wd f s h = .ok (.str w) h1 := by
  unfold dTold
  rw [e]
  show (if cl.contains (c % 100) = true then Rs.ok (Va.str (wd (c % 100))) h1 else .no) = _
  rw [if_pos hc, hw]
theorem told_ok {cl : List Nat} {wd : Nat → Str} {f : De} {s : Sg} {h h1 : Hs} {v : Va} (e : f s h = .ok v h1) : dTold cl wd f s h = .ok v h1 := by
  unfold dTold
  rw [e]
theorem ret_of {f : De} {s : Sg} {h h1 : Hs} {v : Va} (e : f s h = .ok v h1) : dRet f s h = .rt v h1 := by
  unfold dRet
  rw [e]
  rfl
theorem ife_t {t : Dt} {f k : De} {s : Sg} {h h1 : Hs} (e : t s h = .ok true h1) : dIf t f k s h = f s h1 := by
  unfold dIf
  rw [e]
  rfl
theorem ife_f {t : Dt} {f k : De} {s : Sg} {h h1 : Hs} (e : t s h = .ok false h1) : dIf t f k s h = k s h1 := by
  unfold dIf
  rw [e]
  rfl
end Wr
namespace Pg
open PySem PySem.Spec PyProof.Rows L2 Wr
def mC : De := (dMeth "change" Poll_change 3 (dVar 0) (aCons (dOp kIxU (dVar 1) (dC (.int 1))) (aCons (dOp kIxU (dVar 1) (dC (.int 2))) aNil)))
def mA : De := (dMeth "add" Poll_add 2 (dVar 0) (aCons (dOp kIxU (dVar 1) (dC (.int 1))) aNil))
def mD : De := (dMeth "drop" Poll_drop 2 (dVar 0) (aCons (dOp kIxU (dVar 1) (dC (.int 1))) aNil))
def did_0 (wd : Nat → Str) : Ds := (dIfS (dTest (dOp kEq (dOp kIxU (dVar 1) (dC (.int 0))) (dC (.str (Str.mk #[99, 104, 97, 110, 103, 101]))))) (dRet (dTold [0, 1, 2, 3, 4, 5, 6, 7] wd (dMeth "change" Poll_change 3 (dVar 0) (aCons (dOp kIxU (dVar 1) (dC (.int 1))) (aCons (dOp kIxU (dVar 1) (dC (.int 2))) aNil))))) dNx)
def did_1 (wd : Nat → Str) : Ds := (dRet (dTold [0, 1, 2, 3, 4, 5, 6, 7] wd (dIf (dTest (dOp kEq (dOp kIxU (dVar 1) (dC (.int 0))) (dC (.str (Str.mk #[97, 100, 100]))))) (dMeth "add" Poll_add 2 (dVar 0) (aCons (dOp kIxU (dVar 1) (dC (.int 1))) aNil)) (dMeth "drop" Poll_drop 2 (dVar 0) (aCons (dOp kIxU (dVar 1) (dC (.int 1))) aNil)))))
def did (wd : Nat → Str) : Fn := fnD 2 (dSeq (did_0 wd) (did_1 wd))
section
variable {wd : Nat → Str} (hw : wd 4 = Str.mk #[110, 111, 32, 116, 104, 105, 110, 103]) {P L : List Va} (fP : refsVs P = []) (fL : refsVs L = []) (hP : P.length ≤ 1000) {b : B6} (hb : b.le 97)
abbrev sd (dv : Va) : Sg := [some (.ref 0), some dv]
abbrev HG (b : B6) (P L : List Va) (d : Dd) : Hs := [PI (d.to b).v 1 3, .lst (P ++ [.tup [d.v, b.v]]), .lst L, .lst []]
include fP fL hP hb
/-- the method's own telling -/
theorem mC_ok (n o : Nat) (hd : (Dd.chg n o).ok) : mC (sd (Dd.chg n o).v) (H3 b.v P L) = if (Dd.chg n o).no b then .ex 4 (H3 b.v P L) else .ok (.int ((Dd.chg n o).told b)) (HG b P L (.chg n o)) := by
  have fb := refs_book b
  have fb2 := refs_book (b.chg n o)
  have z : mC (sd (Dd.chg n o).v) (H3 b.v P L) = callD Poll_change [.ref 0, .int n, .int o] (H3 b.v P L) := meth_is (vs := [.int n, .int o]) rfl ((at3 fb fP fL).ins _ (by decide +kernel)) rfl rfl
  rw [z]
  by_cases hn : (Dd.chg n o).no b
  · rw [if_pos hn]
    exact (at3 fb fP fL).exc (by simp [refsVs, refsV]) (chg_x b (hb.ok1 (by decide)).ok n o hd.1 hd.2 hn P L)
  · rw [if_neg hn]
    have h6 : n ≠ 6 := fun q => hn (.inl q)
    have hz : b.get n ≠ 0 := fun q => hn (.inr q)
    have := hb.get n
    have h1 := hd.1
    exact (at3 fb fP fL).go (by simp [refsVs, refsV]) rfl fb2 (flatP fP fL hP rfl fb) (chg_loc fP fL hP b (hb.ok1 (by decide)) n o (by omega) hd.2 (by omega))
theorem mD_ok (n : Nat) (hd : (Dd.drop n).ok) : mD (sd (Dd.drop n).v) (H3 b.v P L) = if (Dd.drop n).no b then .ex 4 (H3 b.v P L) else .ok (.int ((Dd.drop n).told b)) (HG b P L (.drop n)) := by
  have fb := refs_book b
  have fb2 := refs_book (b.dec n)
  have z : mD (sd (Dd.drop n).v) (H3 b.v P L) = callD Poll_drop [.ref 0, .int n] (H3 b.v P L) := meth_is (vs := [.int n]) rfl ((at3 fb fP fL).ins _ (by decide +kernel)) rfl rfl
  rw [z]
  by_cases hn : (Dd.drop n).no b
  · rw [if_pos hn]
    exact (at3 fb fP fL).exc (by simp [refsVs, refsV]) (drop_x b (hb.ok1 (by decide)).ok n hd hn P L)
  · rw [if_neg hn]
    have h6 : n ≠ 6 := fun q => hn (.inl q)
    have hz : b.get n ≠ 0 := fun q => hn (.inr q)
    have := hb.get n
    have h1 : n < 7 := hd
    exact (at3 fb fP fL).go (by simp [refsVs, refsV]) rfl fb2 (flatP fP fL hP rfl fb) (drop_loc fP fL hP b (hb.ok1 (by decide)) n (by omega) (by omega))
theorem mA_ok (n : Nat) (hd : (Dd.add n).ok) : mA (sd (Dd.add n).v) (H3 b.v P L) = if (Dd.add n).no b then .ex 4 (H3 b.v P L) else .ok (.int ((Dd.add n).told b)) (HG b P L (.add n)) := by
  have fb := refs_book b
  have fb2 := refs_book (b.inc n)
  have z : mA (sd (Dd.add n).v) (H3 b.v P L) = callD Poll_add [.ref 0, .int n] (H3 b.v P L) := meth_is (vs := [.int n]) rfl ((at3 fb fP fL).ins _ (by decide +kernel)) rfl rfl
  rw [z]
  by_cases hn : (Dd.add n).no b
  · rw [if_pos hn]
    have hn' : n = 6 := hn
    subst hn'
    exact (at3 fb fP fL).exc (by simp [refsVs, refsV]) (add_x b.v P L)
  · rw [if_neg hn]
    have h6 : n ≠ 6 := hn
    have := hb.get n
    have h1 : n < 7 := hd
    exact (at3 fb fP fL).go (by simp [refsVs, refsV]) rfl fb2 (flatP fP fL hP rfl fb) (add_loc fP fL hP b n (by omega) (by omega))
include hw
theorem did_loc (d : Dd) (hd : d.ok) : did wd [.ref 0, d.v] (H3 b.v P L) = if d.no b then .ok sNT (H3 b.v P L) else .ok (.int (d.told b)) (HG b P L d) := by
  have fb := refs_book b
  have fb2 := refs_book (d.to b)
  have key : (dSeq (did_0 wd) (did_1 wd)) (sd d.v) (H3 b.v P L) = if d.no b then .rt sNT (H3 b.v P L) else .rt (.int (d.told b)) (HG b P L d) := by
    cases d with
    | add n =>
      have e0 : did_0 wd (sd (Dd.add n).v) (H3 b.v P L) = .nx (sd (Dd.add n).v) (H3 b.v P L) := by
        unfold did_0
        exact (if_f (h1 := H3 b.v P L) (by kernel_rfl)).trans rfl
      have e1 := mA_ok fP fL hP hb n hd
      refine seq_nx e0 ?_
      unfold did_1
      have e2 := fun f k => ife_t (f := f) (k := k) (show dTest (dOp kEq (dOp kIxU (dVar 1) (dC (.int 0))) (dC (.str (Str.mk #[97, 100, 100])))) (sd (Dd.add n).v) (H3 b.v P L) = .ok true (H3 b.v P L) by kernel_rfl)
      by_cases hn : (Dd.add n).no b
      · rw [if_pos hn] at e1 ⊢
        exact ret_of (told_x (e2 _ _ |>.trans e1) rfl hw)
      · rw [if_neg hn] at e1 ⊢
        exact ret_of (told_ok (e2 _ _ |>.trans e1))
    | drop n =>
      have e0 : did_0 wd (sd (Dd.drop n).v) (H3 b.v P L) = .nx (sd (Dd.drop n).v) (H3 b.v P L) := by
        unfold did_0
        exact (if_f (h1 := H3 b.v P L) (by kernel_rfl)).trans rfl
      have e1 := mD_ok fP fL hP hb n hd
      refine seq_nx e0 ?_
      unfold did_1
      have e2 := fun f k => ife_f (f := f) (k := k) (show dTest (dOp kEq (dOp kIxU (dVar 1) (dC (.int 0))) (dC (.str (Str.mk #[97, 100, 100])))) (sd (Dd.drop n).v) (H3 b.v P L) = .ok false (H3 b.v P L) by kernel_rfl)
      by_cases hn : (Dd.drop n).no b
      · rw [if_pos hn] at e1 ⊢
        exact ret_of (told_x (e2 _ _ |>.trans e1) rfl hw)
      · rw [if_neg hn] at e1 ⊢
        exact ret_of (told_ok (e2 _ _ |>.trans e1))
    | chg n o =>
      have e1 := mC_ok fP fL hP hb n o hd
      have e2 := fun f k => if_t (f := f) (k := k) (show dTest (dOp kEq (dOp kIxU (dVar 1) (dC (.int 0))) (dC (.str (Str.mk #[99, 104, 97, 110, 103, 101])))) (sd (Dd.chg n o).v) (H3 b.v P L) = .ok true (H3 b.v P L) by kernel_rfl)
      by_cases hn : (Dd.chg n o).no b
      · rw [if_pos hn] at e1 ⊢
        refine seq_rt ?_
        unfold did_0
        exact (e2 _ _).trans (ret_of (told_x e1 rfl hw))
      · rw [if_neg hn] at e1 ⊢
        refine seq_rt ?_
        unfold did_0
        exact (e2 _ _).trans (ret_of (told_ok e1))
  unfold did
  by_cases hn : d.no b
  · rw [if_pos hn] at key ⊢
    rw [fnD_rt (s := sd d.v) rfl key]
    rfl
  · rw [if_neg hn] at key ⊢
    rw [fnD_rt (s := sd d.v) rfl key]
    exact compact4 rfl fb2 (flatP fP fL hP d.flat fb) fL
end
def de_0 (ns : List Int) : Ds := (dPar [3, 4] (aCons (dCall (_law_pick ns) 3 (aCons (dVar 0) (aCons (dVar 1) (aCons (dC (.int 7)) aNil)))) (aCons (dCall (_law_pick ns) 3 (aCons (dVar 0) (aCons (dOp kAdd (dVar 1) (dC (.int 1))) (aCons (dC (.int 6)) aNil)))) aNil)))
def de_1 (ns : List Int) : Ds := (dSet 5 (dComp [6] (dRng1 (aCons (dC (.int 6)) aNil)) (.nm 6) (dTest (dOp kGt (dOp kIxU (dVar 2) (dVar 6)) (dC (.int 0)))) (dVar 6)))
def de_2 (ns : List Int) : Ds := (dIfS (dAnd (dTest (dOp kNe (dVar 5) (dLst aNil))) (dTest (dOp kGt (dCall (_law_pick ns) 3 (aCons (dVar 0) (aCons (dOp kAdd (dVar 1) (dC (.int 2))) (aCons (dC (.int 4)) aNil)))) (dC (.int 0))))) (dSet 3 (dOp kIxU (dVar 5) (dCall (_law_pick ns) 3 (aCons (dVar 0) (aCons (dOp kAdd (dVar 1) (dC (.int 3))) (aCons (dB kLen (aCons (dVar 5) aNil)) aNil)))))) dNx)
def de_3 (ns : List Int) : Ds := (dRet (dOp kIxU (dLst (aCons (dTup (aCons (dC (.str (Str.mk #[97, 100, 100]))) (aCons (dVar 4) aNil))) (aCons (dTup (aCons (dC (.str (Str.mk #[97, 100, 100]))) (aCons (dVar 3) aNil))) (aCons (dTup (aCons (dC (.str (Str.mk #[100, 114, 111, 112]))) (aCons (dVar 3) aNil))) (aCons (dTup (aCons (dC (.str (Str.mk #[99, 104, 97, 110, 103, 101]))) (aCons (dVar 3) (aCons (dVar 4) aNil)))) aNil))))) (dCall (_law_pick ns) 3 (aCons (dVar 0) (aCons (dOp kAdd (dVar 1) (dC (.int 4))) (aCons (dC (.int 4)) aNil))))))
theorem deed_is (ns : List Int) : _law_deed ns = fnD 7 (dSeq (de_0 ns) (dSeq (de_1 ns) (dSeq (de_2 ns) (de_3 ns)))) := rfl
def held (b : B6) : List Nat := (List.range 6).filter fun k => decide (0 < b.get k)
theorem held_lt {b : B6} {k : Nat} (h : k ∈ held b) : k < 6 := by
  unfold held at h
  have := (List.mem_filter.mp h).1
  simpa using this
theorem like_nums (g : List Nat) (H : Hs) : ∀ v ∈ nums g, Like H 8 v := fun v hv => by
  unfold nums at hv
  obtain ⟨j, _, rfl⟩ := List.mem_map.mp hv
  exact Like.int _ _ _
theorem kNe_of {x y : Va} {h : Hs} {c : Bool} (e : kEq x y h = some (.bl c, h)) : kNe x y h = some (.bl (!c), h) := by
  rw [u_eq] at e
  rw [u_ne]
  cases a : toD h 9 x with
  | none => rw [a] at e; cases e
  | some d1 =>
    cases b : toD h 9 y with
    | none => rw [a, b] at e; cases e
    | some d2 =>
      rw [a, b, u_eq2t] at e
      rw [u_eq2f]
      cases e
      rfl
theorem deed_loc (ns : List Int) (at_ : Int) (h0 : 0 ≤ at_) (b : B6) : ∃ d : Dd, d.ok ∧ _law_deed ns [.scr, .int at_, b.v] [] = .ok d.v [] := by
  obtain ⟨p, hp, r0⟩ := pickN ns at_ 7 (by omega) (by omega)
  obtain ⟨q, hq, r1⟩ := pickN ns (at_ + 1) 6 (by omega) (by omega)
  obtain ⟨p2, hp2, r2⟩ := pickN ns (at_ + 2) 4 (by omega) (by omega)
  obtain ⟨p4, hp4, r4⟩ := pickN ns (at_ + 4) 4 (by omega) (by omega)
  have hq' : q < 6 := by omega
  have hp4' : p4 < 4 := by omega
  have e0 : de_0 ns [some .scr, some (.int at_), some b.v, none, none, none, none] [] = .nx [some .scr, some (.int at_), some b.v, some (.int p), some (.int q), none, none] [] := by
    unfold de_0
    generalize b.v = bv
    simp (maxSteps := 10000000) (disch := first | omega | (simp only [List.length_cons, List.length_nil, List.length_append, List.length_map] <;> omega) | (with_unfolding_all rfl)) only [u_v0, u_vS, u_c, u_lft, u_op, u_op1, u_op2, u_test, u_tst, u_anil, u_acons, u_ac1, u_ac2, u_tup, u_tu1, u_lst, u_ls1, u_not, u_nt1, u_and, u_and1t, u_and1f, u_andv, u_andv1t, u_andv1f, u_or, u_or1t, u_or1f, u_orv, u_orv1t, u_orv1f, u_notv, u_nv1, u_ife, u_ife1t, u_ife1f, u_ifs, u_ifs1t, u_ifs1f, u_nx, u_ct, u_seq, u_then, u_then2, u_then3, u_drop, u_mask0, u_mask1, u_expr, u_ex1, u_ret, u_rt1, u_set, u_st1, u_call, u_ca1, u_call0, u_B, u_b1, u_chain, u_ch1, u_ch2, u_ch3t, u_ch3f, u_ch4, u_it, u_it1t, u_it1r, u_itR, u_zip, u_zi1tt, u_zi1tr, u_zi1rt, u_zi1rr, u_zi2, u_zi3, u_rng, u_rn1, u_nxtT, u_nxtL, u_nxL, u_nxtR, u_nxtZ, u_zz1, u_zz2, u_zz3, u_nxtE, u_ee1, u_ee2, u_lenT, u_lenL, u_lnL, u_lenR, u_lenZ, u_lenE, u_comp, u_co1, u_co2, u_w0, u_w1, u_compL, u_clA0, u_clA1, u_clB, u_clCt, u_clCf, u_clD, u_clE, u_yes, u_setN, u_set2, u_set3, u_asg, u_as1, u_as2, u_put, u_pu1, u_pu2, u_pu3, u_pu4, u_for, u_fo1, u_forS, u_fA, u_fB0, u_fB1, u_fC, u_con1, u_con2, u_con3, u_con4, u_M, u_me1, u_me2, u_me3, u_M2, u_mm1t, u_rev, u_rv1t, u_rv1r, u_rvL, u_newD, u_ixo, u_ixT, u_ixR, u_ixRl, u_ixRd, u_ixRf, u_gK1, u_atI, u_ixN, u_kLt, u_kLe, u_kGt, u_kGe, u_kSub, u_kAdd, u_mul, u_mulr, u_addT, u_addL, u_addL1, u_eq, u_ne, u_eq2t, u_eq2f, u_tdR, u_tdL, u_tdLL, u_tdTT, u_tdT, u_tdS0, u_tdS1, u_tdC, u_eqvB, u_eqvN, u_eqvNI, u_eqvIN, u_eqvNT, u_eqvTN, u_eqv01, u_eqv10, u_in, u_notin, u_in2lt, u_in2lf, u_in2tt, u_in2tf, u_any0, u_any1, u_lenTup, u_lenRef, u_lenR1, u_lst?, u_tupT, u_tupR, u_tpo, u_listT, u_listR, u_lso, u_intB, u_min2, u_ints?, u_ints0, u_ints1, u_icn, u_minR, u_min?, u_maxR, u_max?, u_srtR, u_srtT, u_srt?, u_sruR, u_sru?, u_sI0, u_sI1, u_iI0, u_iI1, u_sU0, u_sU1, u_iU0, u_iU1, u_sumR, u_sumT, u_sum?, u_bls?, u_bls0, u_bls1, u_bcn, u_allR, u_anyR, u_all?, u_any?, u_aB0, u_aB1, u_oB0, u_oB1, u_app, u_apL, u_ext, u_exL, u_isL, u_isL1, u_kput, u_puL, u_puN, u_puD, u_pk2, u_hasK0, u_hasK1, u_repK0, u_repK1, u_neg, u_ng1, u_whl, u_wh1t, u_wh1f, u_wh2, u_lock, u_lkA, u_lkB, u_lkC, u_lkD, u_keys, u_ke1, u_ke2, u_kys0, u_kys1, u_dt, u_df, u_ct1, u_ct2, u_g0, u_gS, u_gN, toD_non, toD_bl, toD_int, eqv_int, eqv_tup, eqv_lst, eqv_all0, eqv_all1, Option.bind_some, List.length_cons, List.length_nil, List.length_append, List.length_set, List.cons_append, List.nil_append, List.set_cons_zero, List.set_cons_succ, List.take_succ_cons, List.take_zero, List.map_cons, List.map_nil, List.reverse_cons, List.reverse_nil, List.contains_cons, List.contains_nil, Bool.true_or, Bool.or_true, Bool.false_or, Bool.or_false, Bool.true_and, Bool.and_true, Bool.false_and, Bool.and_false, Bool.not_true, Bool.not_false, if_pos, if_neg, List.sum_cons, List.sum_nil, decide_true, decide_false, beq_self_eq_true, Nat.reduceBEq, Int.reduceNeg, Nat.zero_add, Int.zero_add, Int.add_zero, Int.cast_ofNat_Int, Nat.reduceAdd, Nat.reduceSub, Nat.reduceLeDiff, Nat.lt_irrefl, Nat.reduceEqDiff, Int.reduceLT, Int.reduceLE, Int.reduceEq, Int.reduceAdd, Int.reduceSub, Int.reduceMul, Int.reduceToNat, ↓reduceIte, not_false_eq_true, not_true_eq_false, Int.zero_le_ofNat, Nat.min_eq_left, Nat.min_eq_right, y_seqT, y_thT1, y_thT2, y_thT3, y_thT4, y_td1, y_base, y_forT, y_foT, y_cleanS, y_cs0, y_cs1, y_cs2, y_cs3, y_kM0, y_kM1, y_rH0, y_rH1, y_rS0, y_rSn, y_rSs, y_rVr, y_rVn, y_ren, y_rVb, y_reb, y_rVi, y_rei, y_rVs, y_res, y_rVy, y_rey, y_rVg, y_reg, y_rVc, y_rec, y_rVx, y_rex, y_rVt, y_rVs0, y_rVs1, y_rOl, y_rOd, y_rOt, y_rOu, y_rK0, y_rK1, y_rc0, y_rc1, y_rc2, y_nd0, y_nd1, y_rn, y_rn0, y_rn1, y_rn0s, y_rn1s, y_rer, y_rnr, y_ret, y_rnt, y_rs0, y_rs1, y_rnc, y_ix0, y_ix1, y_so0, y_so1, y_sl1, y_sl2, y_roL, y_roL1, y_roK, y_roK1, y_rk0, y_rk1, y_rkc, y_rg0, y_rgS, u_ga, u_ga0, u_setTR, u_setR, u_sE0, u_sE1, u_par, u_pa1, u_isnot1, u_isnot2, refs_rule, refs_book, refs_rows, refs_intsF, rens_intsF, ren_rule, ren_book, rens_rows, u_enum, u_enmR, u_enmT, u_en2, u_mulL, u_mlL0, u_mlL1, u_mlL2, u_mlL3, u_mlL6, u_maxT, u_mxT, refs_l, rens_l, refs_wv, ren_wv, List.append_nil, u_par, u_pa1, r0, r1]
  have e1 : ∀ (p : Nat), de_1 ns [some .scr, some (.int at_), some b.v, some (.int p), some (.int q), none, none] [] = .nx [some .scr, some (.int at_), some b.v, some (.int p), some (.int q), some (.ref 0), none] [.lst (nums (held b))] := fun p => by
    have c := compI (it := .rng 0 (6 : Nat)) (n := 6) (z := fun i => .int (i : Nat)) (t := .nm 6) (test := dTest (dOp kGt (dOp kIxU (dVar 2) (dVar 6)) (dC (.int 0)))) (el := dVar 6) (s := [some .scr, some (.int at_), some b.v, some (.int p), some (.int q), none, none]) (h := []) (p := fun k => decide (0 < b.get k)) (e := fun i => .int (i : Nat))
      (fun i hi => by rw [u_nxtR]; simp [hi]) (by rw [u_nxtR]; simp)
      (fun i hi => ⟨[some .scr, some (.int at_), some b.v, some (.int p), some (.int q), none, some (.int (i : Nat))], rfl, tst_of (op_of (y := .int 0) (h2 := []) (op_of (x := b.v) (y := .int i) (h1 := []) (h2 := []) rfl rfl (ixB b i hi [])) rfl rfl), fun _ => rfl⟩)
      (6 + 1) 0 (by omega) (by omega)
    have e2 : ((List.range' 0 (6 - 0)).filter fun k => decide (0 < b.get k)).map (fun i : Nat => Va.int i) = nums (held b) := by
      unfold nums held
      rw [Nat.sub_zero, ← List.range_eq_range']
    rw [e2] at c
    have hln : (nums (held b)).length ≤ 16777216 := by
      unfold nums held
      rw [List.length_map]
      exact Nat.le_trans (List.length_filter_le _ _) (by decide)
    unfold de_1
    rw [u_set, u_comp, show dRng1 (aCons (dC (.int 6)) aNil) [some .scr, some (.int at_), some b.v, some (.int p), some (.int q), none, none] [] = .ok (.rng 0 (6 : Nat)) [] from rfl, u_co1, u_lenR]
    show st1 5 (co2 (compL (.rng 0 (6 : Nat)) (.nm 6) _ _ [some .scr, some (.int at_), some b.v, some (.int p), some (.int q), none, none] (6 + 1) 0 [])) _ = _
    rw [c, u_co2 _ _ hln, u_st1]
    rfl
  have e2 : ∃ n : Nat, n < 7 ∧ de_2 ns [some .scr, some (.int at_), some b.v, some (.int p), some (.int q), some (.ref 0), none] [.lst (nums (held b))] = .nx [some .scr, some (.int at_), some b.v, some (.int n), some (.int q), some (.ref 0), none] [.lst (nums (held b)), .lst []] := by
    unfold de_2
    by_cases hh : held b = []
    · refine ⟨p, by omega, ?_⟩
      refine (if_f (and_f (tst_of (op_of (x := .ref 0) (y := .ref 1) (h1 := [.lst (nums (held b))]) (h2 := [.lst (nums (held b)), .lst []]) (h3 := [.lst (nums (held b)), .lst []]) (v := .bl false) rfl rfl ?_)))).trans rfl
      rw [hh]
      exact kNe_of (c := true) (eqLk (l := []) rfl rfl (fun v hv => nomatch hv))
    · have hne : nums (held b) ≠ [] := by unfold nums; simpa using hh
      have t1 : dTest (dOp kNe (dVar 5) (dLst aNil)) [some .scr, some (.int at_), some b.v, some (.int p), some (.int q), some (.ref 0), none] [.lst (nums (held b))] = .ok true [.lst (nums (held b)), .lst []] :=
        tst_of (op_of (x := .ref 0) (y := .ref 1) (h1 := [.lst (nums (held b))]) (h2 := [.lst (nums (held b)), .lst []]) rfl rfl (kNe_of (c := false) (kEq_some rfl rfl hne (like_nums _ _))))
      have t2 : dTest (dOp kGt (dCall (_law_pick ns) 3 (aCons (dVar 0) (aCons (dOp kAdd (dVar 1) (dC (.int 2))) (aCons (dC (.int 4)) aNil)))) (dC (.int 0))) [some .scr, some (.int at_), some b.v, some (.int p), some (.int q), some (.ref 0), none] [.lst (nums (held b)), .lst []] = .ok (decide (0 < (p2 : Int))) [.lst (nums (held b)), .lst []] :=
        tst_of (op_of (x := .int p2) (y := .int 0) (h1 := [.lst (nums (held b)), .lst []]) (h2 := [.lst (nums (held b)), .lst []]) (r2 _) rfl rfl)
      by_cases hg : 0 < (p2 : Int)
      · obtain ⟨p3, hp3, r3⟩ := pickN ns (at_ + 3) ((held b).length : Nat) (by omega) (by have := List.length_pos_iff.mpr hh; omega)
        have hp3' : p3 < (held b).length := by omega
        refine ⟨(held b)[p3], by have := held_lt (List.getElem_mem hp3'); omega, ?_⟩
        rw [decide_eq_true hg] at t2
        refine (if_t ((and_t t1).trans t2)).trans ?_
        have hl : (nums (held b)).length = (held b).length := by simp [nums]
        have k1 : dCall (_law_pick ns) 3 (aCons (dVar 0) (aCons (dOp kAdd (dVar 1) (dC (.int 3))) (aCons (dB kLen (aCons (dVar 5) aNil)) aNil))) [some .scr, some (.int at_), some b.v, some (.int p), some (.int q), some (.ref 0), none] [.lst (nums (held b)), .lst []] = .ok (.int p3) [.lst (nums (held b)), .lst []] := by
          show callD (_law_pick ns) [.scr, .int (at_ + 3), .int ((nums (held b)).length : Nat)] [.lst (nums (held b)), .lst []] = _
          rw [hl]
          exact r3 _
        have k2 : dOp kIxU (dVar 5) (dCall (_law_pick ns) 3 (aCons (dVar 0) (aCons (dOp kAdd (dVar 1) (dC (.int 3))) (aCons (dB kLen (aCons (dVar 5) aNil)) aNil)))) [some .scr, some (.int at_), some b.v, some (.int p), some (.int q), some (.ref 0), none] [.lst (nums (held b)), .lst []] = .ok (.int ((held b)[p3] : Nat)) [.lst (nums (held b)), .lst []] := by
          refine op_of (x := .ref 0) (y := .int p3) (h1 := [.lst (nums (held b)), .lst []]) (h2 := [.lst (nums (held b)), .lst []]) rfl k1 ?_
          have hk : kIx (.ref 0) (.int p3) [.lst (nums (held b)), .lst []] = some (.int ((held b)[p3] : Nat), [.lst (nums (held b)), .lst []]) := by
            show (L2.atI (nums (held b)) (p3 : Int)).map _ = _
            rw [L2.atI_nat (show (nums (held b))[p3]? = some (.int ((held b)[p3] : Nat)) by simp [nums, List.getElem?_eq_getElem hp3'])]
            rfl
          unfold kIxU
          rw [hk]
        unfold dSet
        rw [k2]
        rfl
      · refine ⟨p, by omega, ?_⟩
        rw [decide_eq_false hg] at t2
        exact (if_f ((and_t t1).trans t2)).trans rfl
  obtain ⟨n, hn, e2⟩ := e2
  have e3 : ∃ d : Dd, d.ok ∧ ∃ h, de_3 ns [some .scr, some (.int at_), some b.v, some (.int n), some (.int q), some (.ref 0), none] [.lst (nums (held b)), .lst []] = .rt d.v h := by
    unfold de_3
    have hl : dLst ((aCons (dTup (aCons (dC (.str (Str.mk #[97, 100, 100]))) (aCons (dVar 4) aNil))) (aCons (dTup (aCons (dC (.str (Str.mk #[97, 100, 100]))) (aCons (dVar 3) aNil))) (aCons (dTup (aCons (dC (.str (Str.mk #[100, 114, 111, 112]))) (aCons (dVar 3) aNil))) (aCons (dTup (aCons (dC (.str (Str.mk #[99, 104, 97, 110, 103, 101]))) (aCons (dVar 3) (aCons (dVar 4) aNil)))) aNil))))) [some .scr, some (.int at_), some b.v, some (.int n), some (.int q), some (.ref 0), none] [.lst (nums (held b)), .lst []] = .ok (.ref 2) [.lst (nums (held b)), .lst [], .lst [(Dd.add q).v, (Dd.add n).v, (Dd.drop n).v, (Dd.chg n q).v]] := rfl
    have k1 := r4 [.lst (nums (held b)), .lst [], .lst [(Dd.add q).v, (Dd.add n).v, (Dd.drop n).v, (Dd.chg n q).v]]
    have fin : ∀ d : Dd, d.ok → kIxU (.ref 2) (.int p4) [.lst (nums (held b)), .lst [], .lst [(Dd.add q).v, (Dd.add n).v, (Dd.drop n).v, (Dd.chg n q).v]] = some (d.v, [.lst (nums (held b)), .lst [], .lst [(Dd.add q).v, (Dd.add n).v, (Dd.drop n).v, (Dd.chg n q).v]]) → ∃ d : Dd, d.ok ∧ ∃ h, dRet (dOp kIxU (dLst ((aCons (dTup (aCons (dC (.str (Str.mk #[97, 100, 100]))) (aCons (dVar 4) aNil))) (aCons (dTup (aCons (dC (.str (Str.mk #[97, 100, 100]))) (aCons (dVar 3) aNil))) (aCons (dTup (aCons (dC (.str (Str.mk #[100, 114, 111, 112]))) (aCons (dVar 3) aNil))) (aCons (dTup (aCons (dC (.str (Str.mk #[99, 104, 97, 110, 103, 101]))) (aCons (dVar 3) (aCons (dVar 4) aNil)))) aNil)))))) ((dCall (_law_pick ns) 3 (aCons (dVar 0) (aCons (dOp kAdd (dVar 1) (dC (.int 4))) (aCons (dC (.int 4)) aNil)))))) [some .scr, some (.int at_), some b.v, some (.int n), some (.int q), some (.ref 0), none] [.lst (nums (held b)), .lst []] = .rt d.v h :=
      fun d hd hk => ⟨d, hd, _, ret_of (op_of hl k1 hk)⟩
    rcases (show p4 = 0 ∨ p4 = 1 ∨ p4 = 2 ∨ p4 = 3 by omega) with rfl | rfl | rfl | rfl
    · exact fin (.add q) (show q < 7 by omega) rfl
    · exact fin (.add n) hn rfl
    · exact fin (.drop n) hn rfl
    · exact fin (.chg n q) ⟨hn, hq'⟩ rfl
  obtain ⟨d, hd, h, e3⟩ := e3
  refine ⟨d, hd, ?_⟩
  rw [deed_is, fnD_rt (s := [some .scr, some (.int at_), some b.v, none, none, none, none]) rfl (seq_nx e0 (seq_nx (e1 p) (seq_nx e2 e3)))]
  exact compact_val d.flat
theorem deed_ok (ns : List Int) (at_ : Int) (h0 : 0 ≤ at_) (b : B6) : ∃ d : Dd, d.ok ∧ ∀ h, callD (_law_deed ns) [.scr, .int at_, b.v] h = .ok d.v h := by
  obtain ⟨d, hd, e⟩ := deed_loc ns at_ h0 b
  exact ⟨d, hd, fun h => flat_call (by simp [refsVs, refsV, refs_book]) d.flat e h⟩
end Pg
set_option Elab.async false
set_option linter.all false
set_option maxRecDepth 100000
set_option maxHeartbeats 4000000
set_option autoImplicit false
namespace Wr
open PySem PySem.Spec PyProof.Rows L2
theorem nodup_le : ∀ (a D : List Nat), a.Nodup → (∀ x ∈ a, x ∈ D) → a.length ≤ D.length
  | [], _, _, _ => Nat.zero_le _
  | x :: t, D, nd, sub => by
    have nd' := List.nodup_cons.mp nd
    have := nodup_le t (D.erase x) nd'.2 fun y hy => (List.mem_erase_of_ne (fun e : y = x => nd'.1 (by rw [← e]; exact hy))).mpr (sub y (List.mem_cons_of_mem _ hy))
    rw [List.length_erase_of_mem (sub x (List.mem_cons_self ..))] at this
    have hp : 0 < D.length := List.length_pos_of_mem (sub x (List.mem_cons_self ..))
    simp only [List.length_cons]
    omega
theorem idx_mem : ∀ {m : List Nat} {x : Nat}, x ∈ m → ∃ k, idx m x = some k
  | y :: t, x, h => by
    unfold idx
    by_cases e : (y == x) = true
    · exact ⟨0, by rw [if_pos e]⟩
    · rw [if_neg e]
      obtain ⟨k, hk⟩ := idx_mem (m := t) (x := x) ((List.mem_cons.mp h).resolve_left fun z => e (by simp [z]))
      exact ⟨k + 1, by rw [hk]; rfl⟩
theorem selO_some {m : List Nat} {h : Hs} : ∀ (l : List Nat), (∀ x ∈ l, ∃ o o', h[x]? = some o ∧ renO (idx m) o = some o') → ∃ obs, selO m h l = some obs
  | [], _ => ⟨[], rfl⟩
  | i :: t, q => by
    obtain ⟨o, o', e1, e2⟩ := q i (List.mem_cons_self ..)
    obtain ⟨b, e3⟩ := selO_some t fun x hx => q x (List.mem_cons_of_mem _ hx)
    exact ⟨o' :: b, by unfold selO; simp only [e1, e2, e3]⟩
end Wr
set_option Elab.async false
set_option linter.all false
set_option maxRecDepth 100000
set_option maxHeartbeats 4000000
set_option autoImplicit false
namespace Pg
open PySem PySem.Spec PyProof.Rows L2 Wr
theorem likeB (b : B6) (H : Hs) (n : Nat) : Like H (n + 1) b.v := Like.tup fun v hv => by
  simp only [List.mem_cons, List.not_mem_nil, or_false] at hv
  rcases hv with rfl | rfl | rfl | rfl | rfl | rfl <;> exact Like.int _ _ _
theorem likeS (h : Hs) (n : Nat) (x : Str) (hc : (PyData.str x).canLay0 = true) : Like h n (.str x) := ⟨.str x, by cases n <;> simp [toD, hc], by simp [PyData.eqv]⟩
theorem likeD (d : Dd) (H : Hs) (n : Nat) : Like H (n + 1) d.v := by
  cases d <;> refine Like.tup fun v hv => ?_ <;> simp only [List.mem_cons, List.not_mem_nil, or_false] at hv
  · rcases hv with rfl | rfl
    · exact likeS _ _ _ (by decide +kernel)
    · exact Like.int _ _ _
  · rcases hv with rfl | rfl
    · exact likeS _ _ _ (by decide +kernel)
    · exact Like.int _ _ _
  · rcases hv with rfl | rfl | rfl
    · exact likeS _ _ _ (by decide +kernel)
    · exact Like.int _ _ _
    · exact Like.int _ _ _
theorem flatDue (d : Dd) (b : B6) : refsV (d.due b) = [] := by unfold Dd.due; split <;> rfl
abbrev Zl := List (Dd × B6)
def vv (ps : Zl) : List (Va × Va) := ps.map fun x => (x.1.v, x.2.v)
theorem vv_app (ps qs : Zl) : vv (ps ++ qs) = vv ps ++ vv qs := by simp [vv]
theorem vv_len (ps : Zl) : (vv ps).length = ps.length := by simp [vv]
theorem vv_fst (ps : Zl) : (vv ps).map (·.1) = ps.map (·.1.v) := by simp [vv]
theorem okv {ps : Zl} (h : ps.length ≤ 200) : Okp (vv ps) := ⟨by rw [vv_len]; exact h, fun x hx => by obtain ⟨y, _, rfl⟩ := List.mem_map.mp hx; exact ⟨y.1.flat, refs_book _⟩, fun x hx H => by obtain ⟨y, _, rfl⟩ := List.mem_map.mp hx; exact ⟨likeD _ _ 6, likeB _ _ 6⟩⟩
theorem flatM {α : Type} (f : α → Va) (hf : ∀ x, refsV (f x) = []) : ∀ l : List α, refsVs (l.map f) = []
  | [] => rfl
  | x :: t => by rw [List.map_cons, refsVs, hf, flatM f hf t]; rfl
theorem flatP1 (ps : Zl) : refsVs (PV (vv ps)) = [] := by
  unfold PV vv
  rw [List.map_map]
  exact flatM _ (fun x => by simp [refsV, refsVs, x.1.flat, refs_book]) ps
/-- the poll at r -/
abbrev Pl (h : Hs) (r p q : Nat) (ps : Zl) (b : B6) (ls : Zl) : Prop := At h r p q b.v (PV (vv ps)) (PV (vv ls))
/-- all else stays -/
structure Fr (h h' : Hs) (r p q : Nat) : Prop where
  kept : ∀ (k : Nat) (o : Ob), k ≠ r → k ≠ p → k ≠ q → h[k]? = some o → h'[k]? = some o
  len : h.length ≤ h'.length
  old : ∃ l, h'[q]? = some (.lst l) ∧ refsVs l = []
theorem set3_get {h : Hs} {r p q k : Nat} {a b c o : Ob} (h1 : k ≠ r) (h2 : k ≠ p) (h3 : k ≠ q) (e : h[k]? = some o) : (((h.set r a).set p b).set q c)[k]? = some o := by
  rw [List.getElem?_set_ne (Ne.symm h3), List.getElem?_set_ne (Ne.symm h2), List.getElem?_set_ne (Ne.symm h1)]
  exact e
section
variable {h : Hs} {r p q : Nat} {ps ls : Zl} {b : B6} (A : Pl h r p q ps b ls) (hp : ps.length ≤ 150) (hl : ls.length ≤ 150)
include A
theorem Fr.same : Fr h h r p q := ⟨fun _ _ _ _ _ e => e, Nat.le_refl _, _, A.hq, A.fL⟩
include hp hl
theorem did_pl {wd : Nat → Str} (w4 : wd 4 = Str.mk #[110, 111, 32, 116, 104, 105, 110, 103]) (hb : b.le 97) (d : Dd) (hd : d.ok) :
    ∃ h' q', callD (did wd) [.ref r, d.v] h = .ok (d.due b) h' ∧ Pl h' r p q' (if d.no b then ps else ps ++ [(d, b)]) (d.nx b) (if d.no b then ls else []) ∧ Fr h h' r p q ∧ (q' = q ∨ h.length ≤ q') := by
  have lP : (PV (vv ps)).length ≤ 1000 := by rw [Okp.len, vv_len]; omega
  have e := did_loc w4 A.fP A.fL lP hb d hd
  have f1 : refsVs [d.v] = [] := by simp [refsVs, d.flat]
  by_cases hn : d.no b
  · rw [if_pos hn] at e
    refine ⟨h, q, A.val (v := d.due b) f1 (flatDue d b) ?_, ?_, Fr.same A, .inl rfl⟩
    · rw [e]
      simp only [Dd.due, if_pos hn]
    · simp only [Dd.nx, if_pos hn]
      exact A
  · rw [if_neg hn] at e
    have fP' : refsVs (PV (vv (ps ++ [(d, b)]))) = [] := flatP1 _
    have eP : PV (vv (ps ++ [(d, b)])) = PV (vv ps) ++ [.tup [d.v, b.v]] := by rw [vv_app, show vv [(d, b)] = [(d.v, b.v)] from rfl, PV_app]
    refine ⟨_, h.length, A.go (v := d.due b) (now' := (d.to b).v) (P' := PV (vv (ps ++ [(d, b)]))) f1 (flatDue d b) (refs_book _) fP' ?_, ?_, ⟨fun k o k1 k2 k3 ek => ?_, by simp, _, ?_, A.fL⟩, .inr (Nat.le_refl _)⟩
    · rw [e, eP]
      simp only [Dd.due, if_neg hn]
    · simp only [Dd.nx, if_neg hn]
      exact A.goA (refs_book _) fP'
    · rw [List.getElem?_append_left (by simpa using (List.getElem?_eq_some_iff.mp ek).1)]
      exact set3_get k1 k2 k3 ek
    · have := (List.getElem?_eq_some_iff.mp A.hq).1
      rw [List.getElem?_append_left (by simpa using this), List.getElem?_set_self (by simpa using this)]
theorem steps_pl : callD Poll_steps [.ref r] h = .ok (.ref h.length) (h ++ [.lst (ps.map (·.1.v))]) := by
  rw [← vv_fst]
  exact A.list (post := []) rfl (okv (by omega)).st (steps_loc (refs_book b) (okv (by omega)) (okv (by omega)))
omit hp hl in
theorem book_pl : callD Poll_book [.ref r] h = .ok b.v h := A.val (post := []) rfl (refs_book b) (pbook_ok A.fP A.fL)
end
theorem ixLv {h : Hs} {r i : Nat} {l : List Va} {v : Va} (hr : h[r]? = some (.lst l)) (e : l[i]? = some v) : kIxU (.ref r) (.int i) h = some (v, h) := by
  have : kIx (.ref r) (.int i) h = some (v, h) := by
    unfold kIx
    simp only [hr, atI_nat l i (List.getElem?_eq_some_iff.mp e).1, e, Option.map_some]
  unfold kIxU
  rw [this]
theorem addLn {h : Hs} {r q : Nat} {xs ys : List Va} (hr : h[r]? = some (.lst xs)) (hq : h[q]? = some (.lst ys)) (hl : xs.length + ys.length ≤ 1000) : kAdd (.ref r) (.ref q) h = some (.ref h.length, h ++ [.lst (xs ++ ys)]) := by
  rw [u_addL, hr, hq, u_addL1 _ _ _ (by omega)]
end Pg
set_option Elab.async false
set_option linter.all false
set_option maxRecDepth 100000
set_option maxHeartbeats 4000000
set_option autoImplicit false
namespace Pg
open PySem PySem.Spec PyProof.Rows L2 Wr
def FlS (x : Option Va) : Prop := ∀ v, x = some v → refsV v = []
theorem FlS.n : FlS none := fun _ e => nomatch e
theorem FlS.s {v : Va} (h : refsV v = []) : FlS (some v) := fun _ e => by cases e; exact h
theorem refsF {x : Option Va} {s : Sg} (h : FlS x) : refsS (x :: s) = refsS s := by
  cases x with
  | none => rfl
  | some v => rw [refsS, h v rfl, List.nil_append]
theorem refsR {u : Nat} {s : Sg} : refsS (some (.ref u) :: s) = u :: refsS s := rfl
theorem renF {f : Nat → Option Nat} {x : Option Va} {s s' : Sg} (h : FlS x) (e : renSl f s = some s') : renSl f (x :: s) = some (x :: s') := by
  cases x with
  | none => simp only [renSl, e]
  | some v => simp only [renSl, ren_flat f (h v rfl), e]
theorem renSR {f : Nat → Option Nat} {u u' : Nat} {s s' : Sg} (h : f u = some u') (e : renSl f s = some s') : renSl f (some (.ref u) :: s) = some (some (.ref u') :: s') := by
  simp only [renSl, ren, h, Option.map_some, e]
structure N1 (n0 : Nat) (h : Hs) (r p q : Nat) (ps : Zl) (b : B6) (ls : Zl) (u : Nat) (R : List Va) : Prop where
  pl : Pl h r p q ps b ls
  hu : h[u]? = some (.lst R)
  fR : refsVs R = []
  up : u ≠ p
  uq : u ≠ q
  fl : ∀ k, k < n0 → k ≠ r → ∃ l, h[k]? = some (.lst l) ∧ refsVs l = []
section
variable {n0 : Nat} {h : Hs} {r p q u : Nat} {ps : Zl} {b : B6} {ls : Zl} {R : List Va} (N : N1 n0 h r p q ps b ls u R)
include N
theorem N1.ur : u ≠ r := fun e => by have := N.hu; rw [e, N.pl.hr] at this; cases this
theorem N1.ul : u < h.length := (List.getElem?_eq_some_iff.mp N.hu).1
theorem N1.app (G : Hs) : N1 n0 (h ++ G) r p q ps b ls u R := by
  have e : ∀ {k : Nat} {o : Ob}, h[k]? = some o → (h ++ G)[k]? = some o := fun {k o} z => by rw [List.getElem?_append_left (List.getElem?_eq_some_iff.mp z).1]; exact z
  exact ⟨N.pl.app G, e N.hu, N.fR, N.up, N.uq, fun k hk z => (N.fl k hk z).imp fun l w => ⟨e w.1, w.2⟩⟩
theorem N1.base {n1 : Nat} (hn : n1 ≤ h.length) (ha : ∀ k, n0 ≤ k → k < n1 → k ≠ r → ∃ l, h[k]? = some (.lst l) ∧ refsVs l = []) : N1 n1 h r p q ps b ls u R := ⟨N.pl, N.hu, N.fR, N.up, N.uq, fun k hk z => by
  by_cases e : k < n0
  · exact N.fl k e z
  · exact ha k (by omega) hk z⟩
theorem N1.fr {h' : Hs} {q' : Nat} {ps' ls' : Zl} {b' : B6} (P : Pl h' r p q' ps' b' ls') (F : Fr h h' r p q) (hq : q' = q ∨ h.length ≤ q') : N1 n0 h' r p q' ps' b' ls' u R := by
  have := N.ul
  have := N.uq
  refine ⟨P, F.kept _ _ N.ur N.up N.uq N.hu, N.fR, N.up, by omega, fun k hk z => ?_⟩
  by_cases e : k = q
  · rw [e]; exact F.old
  · by_cases e2 : k = p
    · rw [e2]; exact ⟨_, P.hp, P.fP⟩
    · obtain ⟨l, y, f⟩ := N.fl k hk z
      exact ⟨l, F.kept k _ z e2 e y, f⟩
end
structure N2 (n0 : Nat) (h : Hs) (r p q : Nat) (ps : Zl) (b : B6) (ls : Zl) (r' p' q' : Nat) (ps' : Zl) (b' : B6) (ls' : Zl) (u : Nat) (R : List Va) : Prop where
  pl : Pl h r p q ps b ls
  pk : Pl h r' p' q' ps' b' ls'
  rr : r ≠ r'
  pp : p ≠ p'
  pq : p ≠ q'
  qp : q ≠ p'
  qq : q ≠ q'
  hu : h[u]? = some (.lst R)
  fR : refsVs R = []
  up : u ≠ p
  uq : u ≠ q
  up' : u ≠ p'
  uq' : u ≠ q'
  fl : ∀ k, k < n0 → k ≠ r → k ≠ r' → ∃ l, h[k]? = some (.lst l) ∧ refsVs l = []
section
variable {n0 : Nat} {h : Hs} {r p q r' p' q' u : Nat} {ps : Zl} {b : B6} {ls : Zl} {ps' : Zl} {b' : B6} {ls' : Zl} {R : List Va} (N : N2 n0 h r p q ps b ls r' p' q' ps' b' ls' u R)
include N
theorem N2.ur : u ≠ r := fun e => by have := N.hu; rw [e, N.pl.hr] at this; cases this
theorem N2.ul : u < h.length := (List.getElem?_eq_some_iff.mp N.hu).1
theorem N2.less {n1 : Nat} (hn : n1 ≤ n0) : N2 n1 h r p q ps b ls r' p' q' ps' b' ls' u R := ⟨N.pl, N.pk, N.rr, N.pp, N.pq, N.qp, N.qq, N.hu, N.fR, N.up, N.uq, N.up', N.uq', fun k hk z z' => N.fl k (by omega) z z'⟩
theorem N2.app (G : Hs) : N2 n0 (h ++ G) r p q ps b ls r' p' q' ps' b' ls' u R := by
  have e : ∀ {k : Nat} {o : Ob}, h[k]? = some o → (h ++ G)[k]? = some o := fun {k o} z => by rw [List.getElem?_append_left (List.getElem?_eq_some_iff.mp z).1]; exact z
  exact ⟨N.pl.app G, N.pk.app G, N.rr, N.pp, N.pq, N.qp, N.qq, e N.hu, N.fR, N.up, N.uq, N.up', N.uq', fun k hk z z' => (N.fl k hk z z').imp fun l w => ⟨e w.1, w.2⟩⟩
theorem N2.fr {h' : Hs} {q1 : Nat} {ps1 ls1 : Zl} {b1 : B6} (P : Pl h' r p q1 ps1 b1 ls1) (F : Fr h h' r p q) (hq : q1 = q ∨ h.length ≤ q1) : N2 n0 h' r p q1 ps1 b1 ls1 r' p' q' ps' b' ls' u R := by
  have := N.ul
  have := N.uq
  have l1 := (List.getElem?_eq_some_iff.mp N.pk.hp).1
  have l2 := (List.getElem?_eq_some_iff.mp N.pk.hq).1
  have x1 := N.qp
  have x2 := N.qq
  have pr : p ≠ r' := fun e => by have := N.pl.hp; rw [e, N.pk.hr] at this; cases this
  have qr : q ≠ r' := fun e => by have := N.pl.hq; rw [e, N.pk.hr] at this; cases this
  have rp : r ≠ p' := fun e => by have := N.pl.hr; rw [e, N.pk.hp] at this; cases this
  have rq : r ≠ q' := fun e => by have := N.pl.hr; rw [e, N.pk.hq] at this; cases this
  refine ⟨P, ⟨N.pk.rp, N.pk.rq, N.pk.pq, F.kept _ _ (Ne.symm N.rr) (Ne.symm pr) (Ne.symm qr) N.pk.hr, F.kept _ _ (Ne.symm rp) (Ne.symm N.pp) (Ne.symm N.qp) N.pk.hp, F.kept _ _ (Ne.symm rq) (Ne.symm N.pq) (Ne.symm N.qq) N.pk.hq, N.pk.fn, N.pk.fP, N.pk.fL⟩, N.rr, N.pp, N.pq, by omega, by omega, F.kept _ _ N.ur N.up N.uq N.hu, N.fR, N.up, by omega, N.up', N.uq', fun k hk z z' => ?_⟩
  by_cases e : k = q
  · rw [e]; exact F.old
  · by_cases e2 : k = p
    · rw [e2]; exact ⟨_, P.hp, P.fP⟩
    · obtain ⟨l, y, f⟩ := N.fl k hk z z'
      exact ⟨l, F.kept k _ z e2 e y, f⟩
end
end Pg
set_option Elab.async false
set_option linter.all false
set_option maxRecDepth 100000
set_option maxHeartbeats 4000000
set_option autoImplicit false
namespace Wr
open PySem PySem.Spec PyProof.Rows L2
/-- a method whose arguments make something new -/
theorem meth_at {m : Str} {F : Fn} {i r np : Nat} {s : Sg} {h h1 : Hs} {fa : Da} {vs : List Va} (hs : s[i]? = some (some (.ref r))) (hi : insOk m (.ref r) h = true) (ha : fa s h = .ok vs h1) (hn : (Va.ref r :: vs).length = np) : dMeth m F np (dVar i) fa s h = callD F (.ref r :: vs) h1 := by
  have e : dVar i s h = .ok (.ref r) h := by unfold dVar; rw [hs]
  show ((dVar i s h).bind _) = _
  rw [e]
  show (if insOk m (.ref r) h then _ else _) = _
  rw [if_pos hi]
  show ((fa s h).bind _) = _
  rw [ha]
  show (if (Va.ref r :: vs).length == np then _ else _) = _
  rw [hn, if_pos (by simp)]
end Wr
namespace Pg
open PySem PySem.Spec PyProof.Rows L2 Wr
end Pg
set_option Elab.async false
set_option linter.all false
set_option maxRecDepth 100000
set_option maxHeartbeats 4000000
set_option autoImplicit false
namespace Pg
open PySem PySem.Spec PyProof.Rows L2 Wr
/-- what is reached in a closed heap, at most three by each -/
theorem reach_closed3 {h : Hs} {D : List Nat} (hD : ∀ x ∈ D, ∃ o, h[x]? = some o ∧ (refsO o).length ≤ 3 ∧ ∀ y ∈ refsO o, y ∈ D) :
    ∀ (n : Nat) (todo acc : List Nat), acc.Nodup → (∀ x ∈ todo, x ∈ D) → (∀ x ∈ acc, x ∈ D) → todo.length + 3 * (D.length - acc.length) < n → (∀ x ∈ acc, ∀ o, h[x]? = some o → ∀ y ∈ refsO o, y ∈ acc ∨ y ∈ todo) →
      (reach n h todo acc).Nodup ∧ (∀ x ∈ acc, x ∈ reach n h todo acc) ∧ (∀ x ∈ todo, x ∈ reach n h todo acc) ∧ (∀ x ∈ reach n h todo acc, x ∈ D) ∧ (∀ x ∈ reach n h todo acc, ∀ o, h[x]? = some o → ∀ y ∈ refsO o, y ∈ reach n h todo acc)
  | 0, _, _, _, _, _, hf, _ => absurd hf (Nat.not_lt_zero _)
  | n + 1, [], acc, nd, ht, ha, hf, hc => ⟨nd, fun _ z => z, fun x z => absurd z List.not_mem_nil, ha, fun x hx o ho y hy => (hc x hx o ho y hy).resolve_right List.not_mem_nil⟩
  | n + 1, i :: t, acc, nd, ht, ha, hf, hc => by
    unfold reach
    simp only [List.length_cons] at hf
    by_cases hi : i ∈ acc
    · rw [if_pos (List.contains_iff_mem.mpr hi)]
      obtain ⟨a1, a2, a3, a4, a5⟩ := reach_closed3 hD n t acc nd (fun x hx => ht x (List.mem_cons_of_mem _ hx)) ha (by omega) (fun x hx o ho y hy => (hc x hx o ho y hy).elim .inl fun z => (List.mem_cons.mp z).elim (fun e => .inl (e ▸ hi)) .inr)
      exact ⟨a1, a2, fun x hx => (List.mem_cons.mp hx).elim (fun e => e ▸ a2 i hi) (a3 x), a4, a5⟩
    · rw [if_neg (fun z => hi (List.contains_iff_mem.mp z))]
      obtain ⟨o, ho, hl, hr⟩ := hD i (ht i (List.mem_cons_self ..))
      simp only [ho]
      have nd' : (acc ++ [i]).Nodup := List.nodup_append.mpr ⟨nd, by simp, fun a ha' b hb e => by simp at hb; subst hb; subst e; exact hi ha'⟩
      have ha' : ∀ x ∈ acc ++ [i], x ∈ D := fun x hx => (List.mem_append.mp hx).elim (ha x) fun z => by rw [List.mem_singleton.mp z]; exact ht i (List.mem_cons_self ..)
      have hlen := nodup_le _ _ nd' ha'
      simp only [List.length_append, List.length_cons, List.length_nil] at hlen
      obtain ⟨a1, a2, a3, a4, a5⟩ := reach_closed3 hD n (refsO o ++ t) (acc ++ [i]) nd' (fun x hx => (List.mem_append.mp hx).elim (hr x) fun z => ht x (List.mem_cons_of_mem _ z)) ha' (by simp only [List.length_append, List.length_cons, List.length_nil]; omega)
        (fun x hx p hp y hy => (List.mem_append.mp hx).elim (fun z => (hc x z p hp y hy).elim (fun w => .inl (List.mem_append_left _ w)) fun w => (List.mem_cons.mp w).elim (fun e => .inl (by simp [e])) fun w => .inr (List.mem_append_right _ w))
          fun z => .inr (List.mem_append_left _ (by rw [List.mem_singleton.mp z, ho] at hp; cases hp; exact hy)))
      exact ⟨a1, fun x hx => a2 x (List.mem_append_left _ hx), fun x hx => (List.mem_cons.mp hx).elim (fun e => a2 x (by simp [e])) fun z => a3 x (List.mem_append_right _ z), a4, a5⟩
/-- renaming goes where all references go -/
def KO (o : Ob) : Prop := ∀ f : Nat → Option Nat, (∀ y ∈ refsO o, ∃ k, f y = some k) → ∃ o', renO f o = some o'
structure GoesG (n0 : Nat) (D : List Nat) (h h2 : Hs) (f : Nat → Option Nat) : Prop where
  low : ∀ x, x < n0 → f x = some x
  inj : ∀ x y k, f x = some k → f y = some k → x = y
  at_ : ∀ x k o, f x = some k → h[x]? = some o → ∃ o', renO f o = some o' ∧ h2[k]? = some o' ∧ ∀ y ∈ refsO o, ∃ j, f y = some j
  len : n0 ≤ h2.length
  few : h2.length ≤ D.length
  lt : ∀ x k, f x = some k → k < h2.length
  src : ∀ k, k < h2.length → ∃ x ∈ D, f x = some k
theorem clean_G {n0 : Nat} {live : List Nat} {s s1 : Sg} {h : Hs} {D rs : List Nat} (T : ∀ x ∈ D, ∃ o, h[x]? = some o ∧ KO o ∧ (refsO o).length ≤ 3 ∧ ∀ y ∈ refsO o, y ∈ D) (hn : ∀ x, x < n0 → x ∈ D) (hm : maskS live 0 s = s1) (hr : refsS s1 = rs) (hs : ∀ x ∈ rs, x ∈ D) (few : rs.length + 3 * n0 + 3 * D.length < 300) :
    ∃ (f : Nat → Option Nat) (h2 : Hs), GoesG n0 D h h2 f ∧ (∀ x ∈ rs, ∃ k, f x = some k) ∧ ∀ s2, renSl f s1 = some s2 → cleanS n0 live s h = some (s2, h2) := by
  have T3 : ∀ x ∈ D, ∃ o, h[x]? = some o ∧ (refsO o).length ≤ 3 ∧ ∀ y ∈ refsO o, y ∈ D := fun x hx => by
    obtain ⟨o, a, _, b, c⟩ := T x hx
    exact ⟨o, a, b, c⟩
  have e2 : ∀ y ∈ (h.take n0).flatMap refsO, y ∈ D := fun y hy => by
    obtain ⟨o, ho, hy⟩ := List.mem_flatMap.mp hy
    obtain ⟨k, hk, e⟩ := List.mem_take_iff_getElem.mp ho
    obtain ⟨p, e1, _, c⟩ := T3 k (hn k (by omega))
    rw [List.getElem?_eq_getElem (by omega)] at e1
    rw [← e, Option.some.inj e1] at hy
    exact c y hy
  have l2 : ∀ (g : Hs), (∀ o ∈ g, (refsO o).length ≤ 3) → (g.flatMap refsO).length ≤ 3 * g.length := fun g => by
    induction g with
    | nil => simp
    | cons a t ih =>
      intro q
      have := ih fun o ho => q o (List.mem_cons_of_mem _ ho)
      have := q a (List.mem_cons_self ..)
      simp only [List.flatMap_cons, List.length_append, List.length_cons]
      omega
  have l3 := l2 (h.take n0) fun o ho => by
    obtain ⟨k, hk, e⟩ := List.mem_take_iff_getElem.mp ho
    obtain ⟨p, e1, b, _⟩ := T3 k (hn k (by omega))
    rw [List.getElem?_eq_getElem (by omega)] at e1
    rw [← e, Option.some.inj e1]
    exact b
  have l4 : (h.take n0).length ≤ n0 := by simp; omega
  obtain ⟨a1, a2, a3, a4, a5⟩ := reach_closed3 T3 300 (rs ++ (h.take n0).flatMap refsO) [] List.nodup_nil (fun x hx => (List.mem_append.mp hx).elim (hs x) (e2 x)) (fun x hx => nomatch hx) (by simp only [List.length_append, List.length_nil]; omega) (fun x hx => nomatch hx)
  generalize hR : reach 300 h (rs ++ (h.take n0).flatMap refsO) [] = R at *
  generalize hM : List.range n0 ++ R.filter (fun i => decide (n0 ≤ i)) = m
  have mm : ∀ x, x ∈ m ↔ x < n0 ∨ x ∈ R := fun x => by
    subst hM
    simp only [List.mem_append, List.mem_range, List.mem_filter, decide_eq_true_eq]
    by_cases z : x < n0
    · simp [z]
    · simp [z]; omega
  have nd : m.Nodup := by
    subst hM
    refine List.nodup_append.mpr ⟨List.nodup_range, a1.filter _, fun a ha b hb e => ?_⟩
    simp only [List.mem_range, List.mem_filter, decide_eq_true_eq] at ha hb
    omega
  have mD : ∀ x ∈ m, x ∈ D := fun x hx => ((mm x).mp hx).elim (hn x) (a4 x)
  have mc : ∀ x ∈ m, ∀ o, h[x]? = some o → ∀ y ∈ refsO o, y ∈ m := fun x hx o ho y hy => (mm y).mpr (.inr (((mm x).mp hx).elim
    (fun z => a3 y (List.mem_append_right _ (List.mem_flatMap.mpr ⟨o, List.mem_of_getElem? (i := x) (by rw [List.getElem?_take, if_pos z]; exact ho), hy⟩))) fun z => a5 x z o ho y hy))
  have low : ∀ x, x < n0 → idx m x = some x := fun x hx => idx_of nd (by subst hM; rw [List.getElem?_append_left (by simpa using hx)]; simp [hx])
  have rO : ∀ x ∈ m, ∃ o o', h[x]? = some o ∧ renO (idx m) o = some o' := fun x hx => by
    obtain ⟨o, e, k, _⟩ := T x (mD x hx)
    have c := mc x hx o e
    obtain ⟨o', z⟩ := k (idx m) fun y hy => idx_mem (c y hy)
    exact ⟨o, o', e, z⟩
  obtain ⟨obs, ho⟩ := selO_some (m := m) (h := h) m rO
  obtain ⟨hl, hg⟩ := selO_get ho
  have inM : ∀ x k, idx m x = some k → x ∈ m := fun x k e => List.mem_of_getElem? (idx_get e)
  refine ⟨idx m, obs, ⟨low, fun x y k e1 e2 => ?_, fun x k o e1 e2 => ?_, ?_, ?_, fun x k e => ?_, fun k hk => ⟨m[k]'(by rw [← hl]; exact hk), mD _ (List.getElem_mem _), idx_of nd (List.getElem?_eq_getElem _)⟩⟩, fun x hx => ?_, fun s2 e => ?_⟩
  · have := idx_get e1
    rw [idx_get e2] at this
    cases this
    rfl
  · obtain ⟨p, p', z1, z2, z3⟩ := hg k x (idx_get e1)
    rw [e2] at z1
    cases z1
    exact ⟨p', z3, z2, fun y hy => idx_mem (mc x (inM x k e1) _ e2 y hy)⟩
  · rw [hl]; subst hM; simp
  · rw [hl]; exact nodup_le m D nd mD
  · rw [hl]; exact (List.getElem?_eq_some_iff.mp (idx_get e)).1
  · exact idx_mem ((mm x).mpr (.inr (a3 x (List.mem_append_left _ hx))))
  · unfold cleanS
    simp only [hm, hr, hR, hM, nodupB_of nd, if_true, e, ho]
def KK (o : Ob) : Prop := (∃ l, o = .lst l ∧ refsVs l = []) ∨ (∃ v p q, o = Wr.PI v p q ∧ refsV v = []) ∨ (∃ a b c, o = .lst [.ref a, .ref b, .ref c])
theorem KK.ko {o : Ob} (k : KK o) : KO o := fun f hf => by
  rcases k with ⟨l, rfl, fl⟩ | ⟨v, p, q, rfl, fv⟩ | ⟨a, b, c, rfl⟩
  · exact ⟨_, renO_lst fl⟩
  · rw [refs_PI fv] at hf
    obtain ⟨p', hp⟩ := hf p (by simp)
    obtain ⟨q', hq⟩ := hf q (by simp)
    exact ⟨_, ren_PI fv hp hq⟩
  · obtain ⟨x, hx⟩ := hf a (by simp [refsO, refsVs, refsV])
    obtain ⟨y, hy⟩ := hf b (by simp [refsO, refsVs, refsV])
    obtain ⟨z, hz⟩ := hf c (by simp [refsO, refsVs, refsV])
    exact ⟨.lst [.ref x, .ref y, .ref z], by simp [renO, rens, ren, hx, hy, hz]⟩
theorem KK.three {o : Ob} (k : KK o) : (refsO o).length ≤ 3 := by
  rcases k with ⟨l, rfl, fl⟩ | ⟨v, p, q, rfl, fv⟩ | ⟨a, b, c, rfl⟩
  · rw [show refsO (.lst l) = [] from fl]; simp
  · rw [refs_PI fv]; simp
  · simp [refsO, refsVs, refsV]
def FlatAt (h : Hs) (k : Nat) : Prop := ∃ l, h[k]? = some (.lst l) ∧ refsVs l = []
def OkAt (h : Hs) (k : Nat) : Prop := ∃ o, h[k]? = some o ∧ KK o ∧ ∀ y ∈ refsO o, FlatAt h y
def OkN (n0 : Nat) (h : Hs) : Prop := ∀ k, k < n0 → OkAt h k
theorem flatF {h : Hs} {l : List Va} (f : refsVs l = []) : ∀ y ∈ refsO (Ob.lst l), FlatAt h y := fun y hy => by rw [show refsO (Ob.lst l) = [] from f] at hy; exact absurd hy List.not_mem_nil
theorem FlatAt.ok {h : Hs} {k : Nat} (F : FlatAt h k) : OkAt h k := by
  obtain ⟨l, e, f⟩ := F
  exact ⟨_, e, .inl ⟨l, rfl, f⟩, flatF f⟩
theorem FlatAt.app {h : Hs} {k : Nat} (F : FlatAt h k) (G : Hs) : FlatAt (h ++ G) k := by
  obtain ⟨l, e, f⟩ := F
  exact ⟨l, by rw [List.getElem?_append_left (List.getElem?_eq_some_iff.mp e).1]; exact e, f⟩
theorem OkAt.app {h : Hs} {k : Nat} (A : OkAt h k) (G : Hs) : OkAt (h ++ G) k := by
  obtain ⟨o, e, kk, c⟩ := A
  exact ⟨o, by rw [List.getElem?_append_left (List.getElem?_eq_some_iff.mp e).1]; exact e, kk, fun y hy => (c y hy).app G⟩
theorem OkN.app {n0 : Nat} {h : Hs} (O : OkN n0 h) (G : Hs) : OkN n0 (h ++ G) := fun k hk => (O k hk).app G
theorem OkN.less {n0 n1 : Nat} {h : Hs} (O : OkN n0 h) (hn : n1 ≤ n0) : OkN n1 h := fun k hk => O k (by omega)
theorem OkN.lst {h : Hs} (O : OkN h.length h) (l : List Va) (f : refsVs l = []) : OkN (h ++ [Ob.lst l]).length (h ++ [Ob.lst l]) := fun k hk => by
  by_cases z : k < h.length
  · exact (O k z).app _
  · have : k = h.length := by simp at hk; omega
    subst this
    exact FlatAt.ok ⟨l, by simp, f⟩
section
variable {h : Hs} {r p q : Nat} {ps ls : Zl} {b : B6} (A : Pl h r p q ps b ls)
include A
theorem Pl.flatP : FlatAt h p := ⟨_, A.hp, A.fP⟩
theorem Pl.flatQ : FlatAt h q := ⟨_, A.hq, A.fL⟩
theorem Pl.okAt : OkAt h r := ⟨_, A.hr, .inr (.inl ⟨_, _, _, rfl, A.fn⟩), fun y hy => by
  rw [refs_PI A.fn] at hy
  simp only [List.mem_cons, List.not_mem_nil, or_false] at hy
  rcases hy with rfl | rfl
  · exact Pl.flatP A
  · exact Pl.flatQ A⟩
variable {h' : Hs} {q' : Nat} {ps' ls' : Zl} {b' : B6} (A' : Pl h' r p q' ps' b' ls') (F : Fr h h' r p q)
include A' F
theorem FlatAt.fr {k : Nat} (K : FlatAt h k) : FlatAt h' k := by
  obtain ⟨l, e, f⟩ := K
  by_cases e1 : k = r
  · subst e1; rw [A.hr] at e; cases e
  · by_cases e2 : k = p
    · subst e2; exact Pl.flatP A'
    · by_cases e3 : k = q
      · subst e3; exact F.old
      · exact ⟨l, F.kept k _ e1 e2 e3 e, f⟩
theorem OkAt.fr {k : Nat} (K : OkAt h k) : OkAt h' k := by
  by_cases e1 : k = r
  · subst e1; exact Pl.okAt A'
  · by_cases e2 : k = p
    · subst e2; exact (Pl.flatP A').ok
    · by_cases e3 : k = q
      · subst e3; exact FlatAt.ok F.old
      · obtain ⟨o, e, kk, c⟩ := K
        exact ⟨o, F.kept k _ e1 e2 e3 e, kk, fun y hy => (c y hy).fr A A' F⟩
theorem OkN.fr {n0 : Nat} (O : OkN n0 h) : OkN n0 h' := fun k hk => (O k hk).fr A A' F
end
def exD (h : Hs) (l : List Nat) : List Nat := l ++ l.flatMap fun x => match h[x]? with
  | some o => refsO o
  | none => []
theorem exD_len {h : Hs} : ∀ l : List Nat, (∀ x ∈ l, OkAt h x) → (exD h l).length ≤ 4 * l.length := fun l => by
  have : (∀ x ∈ l, OkAt h x) → (l.flatMap fun x => match h[x]? with | some o => refsO o | none => []).length ≤ 3 * l.length := by
    induction l with
    | nil => simp
    | cons a t ih =>
      intro q
      have h1 := ih fun x hx => q x (List.mem_cons_of_mem _ hx)
      obtain ⟨o, e, kk, _⟩ := q a (List.mem_cons_self ..)
      have h2 := kk.three
      simp only [List.flatMap_cons, e, List.length_append, List.length_cons]
      omega
  intro q
  have := this q
  unfold exD
  simp only [List.length_append]
  omega
theorem mem_exD {h : Hs} {l : List Nat} {x y : Nat} {o : Ob} (hx : x ∈ l) (e : h[x]? = some o) (hy : y ∈ refsO o) : y ∈ exD h l := by
  refine List.mem_append_right _ (List.mem_flatMap.mpr ⟨x, hx, ?_⟩)
  rw [e]
  exact hy
theorem exD_tame {h : Hs} {l : List Nat} (q : ∀ x ∈ l, OkAt h x) : ∀ x ∈ exD h l, ∃ o, h[x]? = some o ∧ KK o ∧ (∀ y ∈ refsO o, FlatAt h y) ∧ ∀ y ∈ refsO o, y ∈ exD h l := fun x hx => by
  rcases List.mem_append.mp hx with hx | hx
  · obtain ⟨o, e, kk, c⟩ := q x hx
    exact ⟨o, e, kk, c, fun y hy => mem_exD hx e hy⟩
  · obtain ⟨z, hz, hx⟩ := List.mem_flatMap.mp hx
    obtain ⟨o, e, kk, c⟩ := q z hz
    rw [e] at hx
    obtain ⟨l', e', f'⟩ := c x hx
    exact ⟨_, e', .inl ⟨l', rfl, f'⟩, flatF f', fun y hy => by rw [show refsO (Ob.lst l') = [] from f'] at hy; exact absurd hy List.not_mem_nil⟩
theorem GoesG.lst {n0 : Nat} {D : List Nat} {h h2 : Hs} {f : Nat → Option Nat} (G : GoesG n0 D h h2 f) {u u1 : Nat} {R : List Va} (e : f u = some u1) (hu : h[u]? = some (.lst R)) (fR : refsVs R = []) : h2[u1]? = some (.lst R) := by
  obtain ⟨o', z1, z2, _⟩ := G.at_ u u1 _ e hu
  rw [renO_lst fR] at z1
  cases z1
  exact z2
theorem GoesG.pl {n0 : Nat} {D : List Nat} {h h2 : Hs} {f : Nat → Option Nat} (G : GoesG n0 D h h2 f) {r p q r1 : Nat} {ps ls : Zl} {b : B6} (er : f r = some r1) (A : Pl h r p q ps b ls) : ∃ p1 q1, f p = some p1 ∧ f q = some q1 ∧ Pl h2 r1 p1 q1 ps b ls := by
  obtain ⟨o', z1, z2, z3⟩ := G.at_ r r1 _ er A.hr
  rw [refs_PI A.fn] at z3
  obtain ⟨p1, ep⟩ := z3 p (by simp)
  obtain ⟨q1, eq⟩ := z3 q (by simp)
  rw [ren_PI A.fn ep eq] at z1
  cases z1
  have ne : ∀ {x y kx ky : Nat}, f x = some kx → f y = some ky → x ≠ y → kx ≠ ky := fun {x y kx ky} z1 z2 z3 e => z3 (G.inj x y kx z1 (by rw [z2, e]))
  exact ⟨p1, q1, ep, eq, ne er ep A.rp, ne er eq A.rq, ne ep eq A.pq, z2, G.lst ep A.hp A.fP, G.lst eq A.hq A.fL, A.fn, A.fP, A.fL⟩
/-- lists of three flat lists -/
theorem GoesG.nest {n0 : Nat} {D : List Nat} {h h2 : Hs} {f : Nat → Option Nat} (G : GoesG n0 D h h2 f) {u u1 a b c : Nat} (e : f u = some u1) (hu : h[u]? = some (.lst [.ref a, .ref b, .ref c])) : ∃ a1 b1 c1, f a = some a1 ∧ f b = some b1 ∧ f c = some c1 ∧ h2[u1]? = some (.lst [.ref a1, .ref b1, .ref c1]) := by
  obtain ⟨o', z1, z2, z3⟩ := G.at_ u u1 _ e hu
  obtain ⟨x, hx⟩ := z3 a (by simp [refsO, refsVs, refsV])
  obtain ⟨y, hy⟩ := z3 b (by simp [refsO, refsVs, refsV])
  obtain ⟨z, hz⟩ := z3 c (by simp [refsO, refsVs, refsV])
  refine ⟨x, y, z, hx, hy, hz, ?_⟩
  simp only [renO, rens, ren, hx, hy, hz, Option.map_some, Option.some.injEq] at z1
  subst z1
  exact z2
theorem clean_ok {n0 : Nat} {live : List Nat} {s s1 : Sg} {h : Hs} {rs : List Nat} (O : OkN n0 h) (hm : maskS live 0 s = s1) (hr : refsS s1 = rs) (hs : ∀ x ∈ rs, OkAt h x) (few : 15 * n0 + 13 * rs.length < 300) :
    ∃ (f : Nat → Option Nat) (h2 : Hs), GoesG n0 (exD h (List.range n0 ++ rs)) h h2 f ∧ OkN h2.length h2 ∧ n0 ≤ h2.length ∧ h2.length ≤ 4 * (n0 + rs.length) ∧ (∀ x ∈ rs, ∃ k, f x = some k) ∧ ∀ s2, renSl f s1 = some s2 → cleanS n0 live s h = some (s2, h2) := by
  have q : ∀ x ∈ List.range n0 ++ rs, OkAt h x := fun x hx => (List.mem_append.mp hx).elim (fun z => O x (List.mem_range.mp z)) (hs x)
  have hl := exD_len _ q
  simp only [List.length_append, List.length_range] at hl
  have T := exD_tame q
  obtain ⟨f, h2, G, d, c⟩ := clean_G (n0 := n0) (rs := rs) (D := exD h (List.range n0 ++ rs)) (h := h) (fun x hx => by
    obtain ⟨o, e, kk, _, cc⟩ := T x hx
    exact ⟨o, e, kk.ko, kk.three, cc⟩) (fun x hx => List.mem_append_left _ (List.mem_append_left _ (by simpa using hx))) hm hr (fun x hx => List.mem_append_left _ (List.mem_append_right _ hx)) (by omega)
  have fl : ∀ y j, f y = some j → FlatAt h y → FlatAt h2 j := fun y j e ⟨l, el, f'⟩ => ⟨l, G.lst e el f', f'⟩
  refine ⟨f, h2, G, fun k hk => ?_, G.len, by have := G.few; omega, d, c⟩
  obtain ⟨x, hx, ek⟩ := G.src k hk
  obtain ⟨o, e, kk, cc, _⟩ := T x hx
  obtain ⟨o', z1, z2, z3⟩ := G.at_ x k o ek e
  rcases kk with ⟨l, rfl, f'⟩ | ⟨v, p, q, rfl, fv⟩ | ⟨a, b, c', rfl⟩
  · rw [renO_lst f'] at z1
    cases z1
    exact FlatAt.ok ⟨l, z2, f'⟩
  · rw [refs_PI fv] at z3 cc
    obtain ⟨p1, ep⟩ := z3 p (by simp)
    obtain ⟨q1, eq⟩ := z3 q (by simp)
    rw [ren_PI fv ep eq] at z1
    cases z1
    refine ⟨_, z2, .inr (.inl ⟨_, _, _, rfl, fv⟩), fun y hy => ?_⟩
    rw [refs_PI fv] at hy
    simp only [List.mem_cons, List.not_mem_nil, or_false] at hy
    rcases hy with rfl | rfl
    · exact fl p _ ep (cc p (by simp))
    · exact fl q _ eq (cc q (by simp))
  · obtain ⟨a1, b1, c1, ea, eb, ec, z4⟩ := GoesG.nest G ek e
    refine ⟨_, z4, .inr (.inr ⟨_, _, _, rfl⟩), fun y hy => ?_⟩
    simp only [refsO, refsVs, refsV, List.cons_append, List.nil_append, List.append_nil, List.mem_cons, List.not_mem_nil, or_false] at hy
    simp only [refsO, refsVs, refsV, List.cons_append, List.nil_append, List.append_nil, List.mem_cons, List.not_mem_nil, or_false] at cc
    rcases hy with rfl | rfl | rfl
    · exact fl a _ ea (cc a (.inl rfl))
    · exact fl b _ eb (cc b (.inr (.inl rfl)))
    · exact fl c' _ ec (cc c' (.inr (.inr rfl)))
theorem GoesG.ne {n0 : Nat} {D : List Nat} {h h2 : Hs} {f : Nat → Option Nat} (G : GoesG n0 D h h2 f) {x y kx ky : Nat} (z1 : f x = some kx) (z2 : f y = some ky) (z3 : x ≠ y) : kx ≠ ky := fun e => z3 (G.inj x y kx z1 (by rw [z2, e]))
end Pg
set_option Elab.async false
set_option linter.all false
set_option maxRecDepth 100000
set_option maxHeartbeats 4000000
set_option autoImplicit false
namespace Wr
open PySem PySem.Spec PyProof.Rows L2
def occ (c : Nat) : List Nat → Nat → List Nat
  | [], _ => []
  | x :: t, o => if x = c then o :: occ c t (o + 1) else occ c t (o + 1)
def splA (c : Nat) : List Nat → List Nat → List (List Nat)
  | acc, [] => [acc]
  | acc, x :: t => if x = c then acc :: splA c [] t else splA c (acc ++ [x]) t
abbrev tx (l : List Nat) : Str := ⟨l.toArray⟩
theorem parts_A (c : Nat) (L : List Nat) : ∀ (l pre acc : List Nat), L = pre ++ acc ++ l → (((pre.length :: (occ c l (pre.length + acc.length)).map (fun x => x + 1)).zip (occ c l (pre.length + acc.length) ++ [L.length])).map fun p => (L.drop p.1).take (p.2 - p.1)) = splA c acc l := by
  intro l
  induction l with
  | nil =>
    intro pre acc h
    subst h
    simp [occ, splA]
  | cons x t ih =>
    intro pre acc h
    by_cases e : x = c
    · have h1 := ih (pre ++ acc ++ [x]) [] (by rw [h]; simp)
      simp only [List.length_append, List.length_cons, List.length_nil, Nat.add_zero] at h1
      simp only [occ, splA, if_pos e]
      rw [List.map_cons, List.cons_append, List.zip_cons_cons, List.map_cons, ← h1]
      congr 1
      rw [h, List.append_assoc, List.drop_left, show pre.length + acc.length - pre.length = acc.length by omega, List.take_left]
    · have h1 := ih pre (acc ++ [x]) (by rw [h]; simp)
      simp only [List.length_append, List.length_cons, List.length_nil] at h1
      simp only [occ, splA, if_neg e]
      rw [← h1]
      simp only [Nat.add_assoc]
theorem ext_take (L : List Nat) (i j : Nat) : L.toArray.extract i j = ((L.drop i).take (j - i)).toArray := by
  rw [List.extract_toArray, List.extract_eq_drop_take]
theorem subAt_1 (L : List Nat) (c i : Nat) : Builtin.Str.subAt (tx L) (tx [c]) i = decide (L[i]? = some c) := by
  unfold Builtin.Str.subAt
  show (L.toArray.extract i (i + 1) == [c].toArray) = _
  rw [ext_take, show i + 1 - i = 1 by omega]
  have e : L[i]? = (L.drop i)[0]? := by rw [List.getElem?_drop, Nat.add_zero]
  rw [e]
  cases h : L.drop i with
  | nil => simp
  | cons x t =>
    have : (x == c) = decide (x = c) := by by_cases z : x = c <;> simp [z]
    simp [this]
def occS (L : List Nat) (c : Nat) (r : Array Nat × Nat) (i : Nat) : Array Nat × Nat :=
  if (decide (r.1.size < L.length + 1) && decide (r.2 ≤ i) && decide (i + 1 ≤ L.length) && decide (L[i]? = some c)) = true then (r.1.push i, i + 1) else r
theorem occS_go (c : Nat) (L : List Nat) : ∀ (k o : Nat) (r : Array Nat × Nat), o + k = L.length + 1 → r.1.size ≤ o → r.2 ≤ o → ((List.range' o k).foldl (occS L c) r).1.toList = r.1.toList ++ occ c (L.drop o) o := by
  intro k
  induction k with
  | zero =>
    intro o r h _ _
    rw [List.drop_eq_nil_of_le (by omega)]
    simp [occ]
  | succ k ih =>
    intro o r h h1 h2
    rw [List.range'_succ, List.foldl_cons]
    by_cases ho : o < L.length
    · rw [List.drop_eq_getElem_cons ho]
      by_cases e : L[o] = c
      · have hs : occS L c r o = (r.1.push o, o + 1) := by
          unfold occS
          rw [if_pos]
          simp only [Bool.and_eq_true, decide_eq_true_eq]
          exact ⟨⟨⟨by omega, h2⟩, by omega⟩, by rw [List.getElem?_eq_getElem ho, e]⟩
        rw [hs, ih (o + 1) _ (by omega) (by simp; omega) (by simp)]
        simp [occ, e]
      · have hs : occS L c r o = r := by
          unfold occS
          rw [if_neg]
          simp only [Bool.and_eq_true, decide_eq_true_eq]
          rintro ⟨_, z⟩
          rw [List.getElem?_eq_getElem ho] at z
          exact e (Option.some.inj z)
        rw [hs, ih (o + 1) _ (by omega) (by omega) (by omega)]
        simp [occ, e]
    · have hs : occS L c r o = r := by
        unfold occS
        rw [if_neg]
        simp only [Bool.and_eq_true, decide_eq_true_eq]
        rintro ⟨⟨_, z⟩, _⟩
        omega
      rw [hs, ih (o + 1) _ (by omega) (by omega) (by omega), List.drop_eq_nil_of_le (by omega), List.drop_eq_nil_of_le (by omega)]
      simp [occ]
theorem occ_fold (L : List Nat) (c : Nat) : ∀ (l : List Nat) (s0 : Array Nat × Nat), (forIn (m := Id) l s0 fun i __s => if (decide (__s.fst.size < L.length + 1) && decide (__s.snd ≤ i) && decide (i + 1 ≤ L.length) && decide (L[i]? = some c)) = true then pure (ForInStep.yield (__s.fst.push i, i + 1)) else pure (ForInStep.yield (__s.fst, __s.snd))) = pure (l.foldl (occS L c) s0) := by
  intro l
  induction l with
  | nil => intro s0; rfl
  | cons i t ih =>
    intro s0
    rw [List.forIn_cons, List.foldl_cons, ← ih]
    unfold occS
    by_cases h : (decide (s0.fst.size < L.length + 1) && decide (s0.snd ≤ i) && decide (i + 1 ≤ L.length) && decide (L[i]? = some c)) = true
    · rw [if_pos h, if_pos h]; rfl
    · rw [if_neg h, if_neg h]; rfl
theorem occ_is (L : List Nat) (c : Nat) : Builtin.Str.occurrences (tx L) (tx [c]) 0 (tx L).length ((tx L).length + 1) = occ c L 0 := by
  have hl : (tx L).length = L.length := by simp [tx, Str.length]
  have h1 : (tx [c]).length = 1 := rfl
  have k := occS_go c L (L.length + 1) 0 (#[], 0) (by omega) (by simp) (by simp)
  simp only [List.drop_zero, List.nil_append] at k
  have k' : ((List.range' 0 (L.length + 1)).foldl (occS L c) (#[], 0)).1.toList = occ c L 0 := by simpa using k
  rw [← k']
  unfold Builtin.Str.occurrences
  simp only [hl, h1, subAt_1, Std.Legacy.Range.forIn_eq_forIn_range', Std.Legacy.Range.size]
  rw [occ_fold, show (L.length + 1 - 0 + 1 - 1) / 1 = L.length + 1 by omega]
  rfl
theorem kind_ge (z : Str) : 1 ≤ Builtin.Str.strKind z := by
  unfold Builtin.Str.strKind
  repeat' split
  all_goals omega
theorem occ_nil (c : Nat) : ∀ (l : List Nat) (o : Nat), occ c l o = [] → ∀ acc, splA c acc l = [acc ++ l]
  | [], _, _, acc => by simp [splA]
  | x :: t, o, h, acc => by
    unfold occ at h
    by_cases e : x = c
    · rw [if_pos e] at h; cases h
    · rw [if_neg e] at h
      rw [splA, if_neg e, occ_nil c t (o + 1) h]
      simp
/-- split at one sign -/
theorem split_1 (L : List Nat) (c : Nat) (hc : c < 256) : Txt.split (tx L) (tx [c]) = (splA c [] L).map tx := by
  have hl : (tx L).length = L.length := by simp [tx, Str.length]
  have h1 : (tx [c]).length = 1 := rfl
  have k1 : Builtin.Str.strKind (tx [c]) = 1 := by
    unfold Builtin.Str.strKind
    rw [if_pos]
    simpa [tx] using hc
  have hg := kind_ge (tx L)
  unfold Txt.split
  rw [occ_is]
  by_cases h0 : L = []
  · subst h0
    rw [if_pos]
    · rfl
    · rw [hl, h1]; rfl
  · have hp : 0 < L.length := List.length_pos_iff.mpr h0
    rw [if_neg (by rw [hl, h1, k1]; simp only [Bool.or_eq_true, decide_eq_true_eq]; omega)]
    by_cases e : (occ c L 0).isEmpty = true
    · rw [if_pos e, occ_nil c L 0 (List.isEmpty_iff.mp e)]
      rfl
    · rw [if_neg e]
      have p := parts_A c L L [] [] rfl
      simp only [List.length_nil, Nat.add_zero] at p
      rw [← p]
      unfold Builtin.Str.partsBetween
      rw [hl, h1, List.map_map]
      refine List.map_congr_left fun q _ => ?_
      show Builtin.Str.strSub (tx L) q.1 q.2 = tx _
      unfold Builtin.Str.strSub
      show Str.mk (L.toArray.extract q.1 q.2) = _
      rw [ext_take]
/-- lines, each with its end -/
theorem splA_app (c : Nat) : ∀ (l t acc : List Nat), c ∉ l → splA c acc (l ++ c :: t) = (acc ++ l) :: splA c [] t
  | [], t, acc, _ => by simp [splA]
  | x :: l, t, acc, h => by
    have hx : x ≠ c := fun e => h (by simp [e])
    rw [List.cons_append, splA, if_neg hx, splA_app c l t _ (fun z => h (by simp [z]))]
    simp
theorem splA_no (c : Nat) : ∀ (l acc : List Nat), c ∉ l → splA c acc l = [acc ++ l]
  | [], acc, _ => by simp [splA]
  | x :: l, acc, h => by
    have hx : x ≠ c := fun e => h (by simp [e])
    rw [splA, if_neg hx, splA_no c l _ (fun z => h (by simp [z]))]
    simp
theorem splA_lines (c : Nat) : ∀ ls : List (List Nat), (∀ l ∈ ls, c ∉ l) → splA c [] (ls.flatMap fun l => l ++ [c]) = ls ++ [[]]
  | [], _ => rfl
  | l :: ls, h => by
    rw [List.flatMap_cons, List.append_assoc, List.singleton_append, splA_app c l _ _ (h l (by simp)), splA_lines c ls (fun m hm => h m (by simp [hm]))]
    rfl
theorem glue_0 : ∀ (ls : List (List Nat)) (a : Array Nat), (ls.map tx).foldl (fun acc p => acc ++ (tx []).cps ++ p.cps) a = a ++ ls.flatten.toArray
  | [], a => by simp
  | l :: ls, a => by
    rw [List.map_cons, List.foldl_cons, glue_0 ls]
    simp [tx]
theorem join_0 (ls : List (List Nat)) : Txt.join (tx []) (ls.map tx) = tx ls.flatten := by
  unfold Txt.join Builtin.Str.glued
  cases ls with
  | nil => rfl
  | cons l ls =>
    rw [List.map_cons, List.drop_succ_cons, List.drop_zero, glue_0]
    simp [tx]
end Wr
set_option Elab.async false
set_option linter.all false
set_option maxRecDepth 100000
set_option maxHeartbeats 4000000
set_option autoImplicit false
namespace Wr
open PySem PySem.Spec PyProof.Rows L2
/-- the references of these stand in it -/
def Fit (h0 : Hs) (t : List Nat) : Prop := t = [] ∨ ((∃ l, h0 = [.lst l]) ∧ ∀ x ∈ t, x = 0)
theorem Fit.sub {h0 : Hs} {t u : List Nat} (h : Fit h0 t) (s : ∀ x ∈ u, x ∈ t) : Fit h0 u := by
  rcases h with h | ⟨h1, h2⟩
  · left
    cases u with
    | nil => rfl
    | cons x u => have := s x List.mem_cons_self; rw [h] at this; cases this
  · exact .inr ⟨h1, fun x hx => h2 x (s x hx)⟩
theorem compact_flv {h : Hs} {n0 : Nat} {v : Va} (h0 : ∀ ob ∈ h.take n0, refsO ob = []) (hv : refsV v = []) (hn : n0 ≤ h.length) : compact n0 (.ok v h) = .ok v (h.take n0) := by
  unfold compact
  by_cases hl : (h.length == n0) = true
  · simp only [hl, if_true]
    rw [List.take_of_length_le (by simp at hl; omega)]
  · have e0 : (h.take n0).flatMap refsO = [] := by
      rw [List.flatMap_eq_nil_iff]
      exact h0
    have em : lastM n0 v h = List.range n0 := by
      unfold lastM
      rw [e0, hv]
      simp [reach]
    have hl' : (h.length == n0) = false := by simpa using hl
    simp only [hl', Bool.false_eq_true, if_false, em]
    rw [if_pos (nodupB_of List.nodup_range)]
    have e1 : ren (idx (List.range n0)) v = some v := ren_flat _ hv
    have e3 : selO (List.range n0) h (List.range n0) = some (h.take n0) := by
      have key := selO_all (m := List.range n0) (h := h) (g := fun i => h.getD i (.lst [])) (List.range n0) (fun i q => by
        have hi0 := List.mem_range.mp q
        have hil : i < h.length := by omega
        refine ⟨h[i], List.getElem?_eq_getElem hil, ?_⟩
        rw [List.getD_eq_getElem?_getD, List.getElem?_eq_getElem hil]
        refine renO_low _ (nil_low (h0 _ ?_))
        exact List.mem_take_iff_getElem.mpr ⟨i, by omega, rfl⟩)
      rw [key]
      congr 1
      apply List.ext_getElem?
      intro i
      rw [List.getElem?_map, List.getElem?_take]
      by_cases hi : i < n0
      · rw [List.getElem?_range hi, if_pos hi]
        have hil : i < h.length := by omega
        simp [List.getElem?_eq_getElem hil]
      · rw [if_neg hi, List.getElem?_eq_none (by simp; omega)]
        rfl
    rw [e1, e3]
end Wr
set_option Elab.async false
set_option linter.all false
set_option maxRecDepth 100000
set_option maxHeartbeats 4000000
set_option autoImplicit false
namespace Wr
open PySem PySem.Spec PyProof.Rows L2
def sl3 (r : Rs (Option Int)) (x : Va) (lo : Option Int) : Rs Va := r.bind fun hi h3 => kSl x lo hi h3
def sl2 (r : Rs (Option Int)) (x : Va) (fh : Dp') (s : Sg) : Rs Va := r.bind fun lo h2 => sl3 (fh s h2) x lo
def sl1 (r : Rs Va) (fl fh : Dp') (s : Sg) : Rs Va := r.bind fun x h1 => sl2 (fl s h1) x fh s
theorem u_sl (f : De) (fl fh : Dp') (s : Sg) (h : Hs) : dSl f fl fh s h = sl1 (f s h) fl fh s := rfl
theorem u_sl1 (x : Va) (h : Hs) (fl fh : Dp') (s : Sg) : sl1 (.ok x h) fl fh s = sl2 (fl s h) x fh s := rfl
theorem u_sl2 (lo : Option Int) (h : Hs) (x : Va) (fh : Dp') (s : Sg) : sl2 (.ok lo h) x fh s = sl3 (fh s h) x lo := rfl
theorem u_sl3 (hi : Option Int) (h : Hs) (x : Va) (lo : Option Int) : sl3 (.ok hi h) x lo = kSl x lo hi h := rfl
theorem u_oN (s : Sg) (h : Hs) : oNone s h = .ok none h := rfl
def oS1 (r : Rs Va) : Rs (Option Int) := match r with
  | .ok (.int i) h => .ok (some i) h
  | .ok _ _ => .no
  | .ex c h => .ex c h
  | .no => .no
theorem u_oS (f : De) (s : Sg) (h : Hs) : oSome f s h = oS1 (f s h) := by
  unfold oSome oS1
  cases f s h with
  | ok v h1 => cases v <;> rfl
  | ex c h1 => rfl
  | no => rfl
theorem u_oS1 (i : Int) (h : Hs) : oS1 (.ok (.int i) h) = .ok (some i) h := rfl
theorem okN_of {n : Nat} (h : n ≤ 16777216) : okN n = true := decide_eq_true h
theorem u_slS (z : Str) (lo hi : Option Int) (h : Hs) (hl : z.length ≤ 16777216) : kSl (.str z) lo hi h = .ok (.str (cutS z lo hi)) h := by
  show (if okN z.length = true then _ else _) = _
  rw [if_pos (okN_of hl)]
theorem u_addS (a b : Str) (h : Hs) (hl : a.length + b.length ≤ 16777216) : kAdd (.str a) (.str b) h = some (.str (a ++ b), h) := by
  show (if okN (a.length + b.length) = true then _ else _) = _
  rw [if_pos (okN_of hl)]
theorem u_lenS (z : Str) (h : Hs) (hl : z.length ≤ 16777216) : kLen [.str z] h = some (.int z.length, h) := by
  show (if okN z.length = true then _ else _) = _
  rw [if_pos (okN_of hl)]
def ixSo (o : Option Nat) (h : Hs) : Option (Va × Hs) := o.map fun c => (.str ⟨#[c]⟩, h)
theorem u_ixSo (c : Nat) (h : Hs) : ixSo (some c) h = some (.str ⟨#[c]⟩, h) := rfl
theorem u_ixS (z : Str) (i : Int) (h : Hs) (hl : z.length ≤ 16777216) : kIxU (.str z) (.int i) h = ixSo (L2.atI z.cps.toList i) h := by
  unfold kIxU kIx ixSo
  simp only [okN_of hl, if_true]
  cases L2.atI z.cps.toList i <;> rfl
theorem u_fdW (i j : Int) (h : Hs) (hj : 0 < j) (hl : j < 18446744073709551616) : kFdivW (.int i) (.int j) h = some (.int (i / j), h) := by
  show (if (decide (0 < j) && decide (j < 18446744073709551616)) = true then _ else _) = _
  rw [if_pos (by simp [hj, hl])]
theorem len_app (a b : Str) : (a ++ b).length = a.length + b.length := by
  have := congrArg List.length (TL.tl_append a b)
  rw [List.length_append, ← TL.len_tl, ← TL.len_tl, ← TL.len_tl] at this
  exact this
theorem len_cut (z : Str) (lo hi : Option Int) : (cutS z lo hi).length ≤ z.length := by
  rw [TL.len_tl, TL.len_tl]
  show ((z.cps.toList.drop _).take _).length ≤ _
  rw [List.length_take, List.length_drop]
  show min _ (z.cps.toList.length - _) ≤ z.cps.toList.length
  omega
/-- equality of texts -/
theorem toD_str (n : Nat) (x : Str) (h : Hs) (hl : PyData.strOk x = true) : toD h n (.str x) = some (.str x) := by
  have : PyData.canLay0 (.str x) = true := by
    unfold PyData.canLay0
    exact hl
  cases n <;> (unfold toD; rw [if_pos this])
theorem strOk_iff (x : Str) : PyData.strOk x = true ↔ ∀ c ∈ TL.tl x, c < 0x110000 := by
  unfold PyData.strOk
  rw [Array.all_eq_true_iff_forall_mem]
  constructor
  · intro h c hc
    exact of_decide_eq_true (h c (Array.mem_toList_iff.mp hc))
  · intro h c hc
    exact decide_eq_true (h c (Array.mem_toList_iff.mpr hc))
theorem strOk_app {a b : Str} (ha : PyData.strOk a = true) (hb : PyData.strOk b = true) : PyData.strOk (a ++ b) = true := by
  rw [strOk_iff] at *
  intro c hc
  rw [TL.tl_append, List.mem_append] at hc
  exact hc.elim (ha c) (hb c)
theorem strOk_cut {z : Str} (lo hi : Option Int) (h : PyData.strOk z = true) : PyData.strOk (cutS z lo hi) = true := by
  rw [strOk_iff] at *
  intro c hc
  exact h c (List.mem_of_mem_drop (List.mem_of_mem_take hc))
end Wr
namespace Pg
open PySem PySem.Spec PyProof.Rows L2 Wr
theorem fn73 (b : Ds) (u v w : Va) (h : Hs) : fnD 7 b [u, v, w] h = compact h.length (toRs (b [some u, some v, some w, none, none, none, none] h)) := rfl
theorem atI_int {α : Type} (xs : List α) (i : Int) (h0 : 0 ≤ i) (h1 : i < xs.length) : ∃ c, L2.atI xs i = some c := by
  obtain ⟨k, rfl⟩ := Int.eq_ofNat_of_zero_le h0
  have hk : k < xs.length := by omega
  refine ⟨xs[k], ?_⟩
  rw [u_atI, u_ixN, if_pos (by omega), if_pos (by omega)]
  simp [hk]
theorem spoilt_text (t sg : Str) (c : Int) (hl : t.length ≤ 1000000) (hs : 0 < sg.length) (hs1 : sg.length ≤ 1000) (ht : PyData.strOk t = true) (hg : PyData.strOk sg = true) : ∃ z : Str, (z.length ≤ 2 * t.length + 1 ∧ PyData.strOk z = true) ∧ _law_spoilt [.str t, .int c, .str sg] [] = .ok (.str z) [] := by
  have hw0 : 0 ≤ c / 100000 % 8 := Int.emod_nonneg _ (by decide)
  have hw1 : c / 100000 % 8 < 8 := Int.emod_lt_of_pos _ (by decide)
  have hr0 : 0 ≤ c % 5 := Int.emod_nonneg _ (by decide)
  have hr1 : c % 5 < 5 := Int.emod_lt_of_pos _ (by decide)
  have hL : (0 : Int) < (t.length : Int) + 1 := by omega
  have hS : (0 : Int) < (sg.length : Int) := by omega
  have hk0 : 0 ≤ c / 1000 % (sg.length : Int) := Int.emod_nonneg _ (by omega)
  have hk1 : c / 1000 % (sg.length : Int) < sg.length := Int.emod_lt_of_pos _ hS
  obtain ⟨d, hd⟩ := atI_int sg.cps.toList (c / 1000 % (sg.length : Int)) hk0 (by
    have : sg.cps.toList.length = sg.length := (TL.len_tl sg).symm
    omega)
  have hl2 : t.length ≤ 16777216 := by omega
  have hl3 : sg.length ≤ 16777216 := by omega
  generalize hat : c % ((t.length : Int) + 1) = at_
  generalize hon : at_ + 1 + c / 7 % 9 = on
  generalize hw : c / 100000 % 8 = w at *
  generalize hr : c % 5 = r at *
  have l1 := len_cut t none (some at_)
  have l2 := len_cut t (some at_) none
  have l3 := len_cut t (some (at_ + 1)) none
  have l4 := len_cut t (some on) none
  have l5 := len_cut t none (some on)
  have l6 : (⟨#[d]⟩ : Str).length = 1 := rfl
  have l7 := len_app (cutS t none (some at_)) ⟨#[d]⟩
  have l8 : (Str.mk #[32]).length = 1 := rfl
  show ∃ z : Str, (z.length ≤ 2 * t.length + 1 ∧ PyData.strOk z = true) ∧ D__law_spoilt [.str t, .int c, .str sg] [] = _
  unfold D__law_spoilt
  rw [fn73]
  have od : PyData.strOk ⟨#[d]⟩ = true := by
    rw [strOk_iff] at hg ⊢
    intro x hx
    have : x = d := by simpa [TL.tl] using hx
    subst this
    unfold L2.atI at hd
    obtain ⟨j, _, hj⟩ := Option.bind_eq_some_iff.mp hd
    exact hg x (List.mem_of_getElem? hj)
  have o1 := strOk_cut none (some at_) ht
  have o2 := strOk_cut (some at_) none ht
  have o3 := strOk_cut (some (at_ + 1)) none ht
  have o4 := strOk_cut (some on) none ht
  have o5 := strOk_cut none (some on) ht
  have o6 : PyData.strOk (Str.mk #[32]) = true := by decide +kernel
  have fin : ∀ z : Str, (z.length ≤ 2 * t.length + 1 ∧ PyData.strOk z = true) → ∀ r : RS, r = .rt (.str z) [] → ∃ z : Str, (z.length ≤ 2 * t.length + 1 ∧ PyData.strOk z = true) ∧ compact ([] : Hs).length (toRs r) = .ok (.str z) [] := fun z hz r e => ⟨z, hz, by rw [e]; rfl⟩
  have fin2 : ∀ z : Str, (z.length ≤ 2 * t.length + 1 ∧ PyData.strOk z = true) → ∀ r : RS, (∃ h, r = .rt (.str z) h) → ∃ z : Str, (z.length ≤ 2 * t.length + 1 ∧ PyData.strOk z = true) ∧ compact ([] : Hs).length (toRs r) = .ok (.str z) [] := fun z hz r ⟨h, e⟩ => ⟨z, hz, by rw [e]; exact compact_flv (fun _ q => nomatch q) rfl (Nat.zero_le _)⟩
  have z1 := len_app (cutS t none (some at_) ++ ⟨#[d]⟩) (cutS t (some at_) none)
  have z2 := len_app (cutS t none (some at_)) (cutS t (some (at_ + 1)) none)
  have z3 := len_app (cutS t none (some at_) ++ ⟨#[d]⟩) (cutS t (some (at_ + 1)) none)
  have z4 := len_app (cutS t none (some at_)) (cutS t (some on) none)
  have z5 := len_app (cutS t none (some on)) (cutS t (some at_) none)
  have y0 := len_app t (Str.mk #[32])
  have y1 := len_app (Str.mk #[32]) t
  have y2 := len_app (cutS t (some at_) none) (cutS t none (some at_))
  have y4 := len_app t t
  obtain ⟨q, rfl⟩ := Int.eq_ofNat_of_zero_le hw0
  have hq : q < 8 := by omega
  rcases (show q = 0 ∨ q = 1 ∨ q = 2 ∨ q = 3 ∨ q = 4 ∨ q = 5 ∨ q = 6 ∨ q = 7 by omega) with rfl | rfl | rfl | rfl | rfl | rfl | rfl | rfl
  · refine fin (cutS t none (some at_) ++ ⟨#[d]⟩ ++ cutS t (some at_) none) ⟨by omega, strOk_app (strOk_app o1 od) o2⟩ _ ?_
    simp (maxSteps := 10000000) (disch := first | omega | (simp only [List.length_cons, List.length_nil, List.length_append, List.length_map] <;> omega) | (unfold CleanOK; with_unfolding_all rfl) | (with_unfolding_all rfl)) only [u_v0, u_vS, u_c, u_lft, u_op, u_op1, u_op2, u_test, u_tst, u_anil, u_acons, u_ac1, u_ac2, u_tup, u_tu1, u_lst, u_ls1, u_not, u_nt1, u_and, u_and1t, u_and1f, u_andv, u_andv1t, u_andv1f, u_or, u_or1t, u_or1f, u_orv, u_orv1t, u_orv1f, u_notv, u_nv1, u_ife, u_ife1t, u_ife1f, u_ifs, u_ifs1t, u_ifs1f, u_nx, u_ct, u_seq, u_then, u_then2, u_then3, u_drop, u_mask0, u_mask1, u_expr, u_ex1, u_ret, u_rt1, u_set, u_st1, u_call, u_ca1, u_call0, u_B, u_b1, u_chain, u_ch1, u_ch2, u_ch3t, u_ch3f, u_ch4, u_it, u_it1t, u_it1r, u_itR, u_zip, u_zi1tt, u_zi1tr, u_zi1rt, u_zi1rr, u_zi2, u_zi3, u_rng, u_rn1, u_nxtT, u_nxtL, u_nxL, u_nxtR, u_nxtZ, u_zz1, u_zz2, u_zz3, u_nxtE, u_ee1, u_ee2, u_lenT, u_lenL, u_lnL, u_lenR, u_lenZ, u_lenE, u_comp, u_co1, u_co2, u_w0, u_w1, u_compL, u_clA0, u_clA1, u_clB, u_clCt, u_clCf, u_clD, u_clE, u_yes, u_setN, u_set2, u_set3, u_asg, u_as1, u_as2, u_put, u_pu1, u_pu2, u_pu3, u_pu4, u_for, u_fo1, u_forS, u_fA, u_fB0, u_fB1, u_fC, u_con1, u_con2, u_con3, u_con4, u_M, u_me1, u_me2, u_me3, u_M2, u_mm1t, u_rev, u_rv1t, u_rv1r, u_rvL, u_newD, u_ixo, u_ixT, u_ixR, u_ixRl, u_ixRd, u_ixRf, u_gK1, u_ixN, u_kLt, u_kLe, u_kGt, u_kGe, u_kSub, u_kAdd, u_mul, u_mulr, u_addT, u_addL, u_addL1, u_eq, u_ne, u_eq2t, u_eq2f, u_tdR, u_tdL, u_tdLL, u_tdTT, u_tdT, u_tdS0, u_tdS1, u_tdC, u_eqvB, u_eqvN, u_eqvNI, u_eqvIN, u_eqvNT, u_eqvTN, u_eqv01, u_eqv10, u_in, u_notin, u_in2lt, u_in2lf, u_in2tt, u_in2tf, u_any0, u_any1, u_lenTup, u_lenRef, u_lenR1, u_lst?, u_tupT, u_tupR, u_tpo, u_listT, u_listR, u_lso, u_intB, u_min2, u_ints?, u_ints0, u_ints1, u_icn, u_minR, u_min?, u_maxR, u_max?, u_srtR, u_srtT, u_srt?, u_sruR, u_sru?, u_sI0, u_sI1, u_iI0, u_iI1, u_sU0, u_sU1, u_iU0, u_iU1, u_sumR, u_sumT, u_sum?, u_bls?, u_bls0, u_bls1, u_bcn, u_allR, u_anyR, u_all?, u_any?, u_aB0, u_aB1, u_oB0, u_oB1, u_app, u_apL, u_ext, u_exL, u_isL, u_isL1, u_kput, u_puL, u_puN, u_puD, u_pk2, u_hasK0, u_hasK1, u_repK0, u_repK1, u_neg, u_ng1, u_whl, u_wh1t, u_wh1f, u_wh2, u_lock, u_lkA, u_lkB, u_lkC, u_lkD, u_keys, u_ke1, u_ke2, u_kys0, u_kys1, u_dt, u_df, u_ct1, u_ct2, u_g0, u_gS, u_gN, toD_non, toD_bl, toD_int, eqv_int, eqv_tup, eqv_lst, eqv_all0, eqv_all1, clean_flat, Option.bind_some, List.length_cons, List.length_nil, List.length_append, List.length_set, List.cons_append, List.nil_append, List.set_cons_zero, List.set_cons_succ, List.take_succ_cons, List.take_zero, List.map_cons, List.map_nil, List.reverse_cons, List.reverse_nil, List.contains_cons, List.contains_nil, Bool.true_or, Bool.or_true, Bool.false_or, Bool.or_false, Bool.true_and, Bool.and_true, Bool.false_and, Bool.and_false, Bool.not_true, Bool.not_false, if_pos, if_neg, List.sum_cons, List.sum_nil, decide_true, decide_false, beq_self_eq_true, Nat.reduceBEq, Int.reduceNeg, Nat.zero_add, Int.zero_add, Int.add_zero, Int.cast_ofNat_Int, Nat.reduceAdd, Nat.reduceSub, Nat.reduceLeDiff, Nat.lt_irrefl, Nat.reduceEqDiff, Int.reduceLT, Int.reduceLE, Int.reduceEq, Int.reduceAdd, Int.reduceSub, Int.reduceMul, Int.reduceToNat, ↓reduceIte, not_false_eq_true, not_true_eq_false, Int.zero_le_ofNat, Nat.min_eq_left, Nat.min_eq_right, u_mod, u_fdW, u_lenS, u_ixS, u_ixSo, hd, hat, hon, hw, u_sl, u_sl1, u_sl2, u_sl3, u_oN, u_oS, u_oS1, u_slS, u_addS]
  · refine fin (cutS t none (some at_) ++ ⟨#[d]⟩ ++ cutS t (some at_) none) ⟨by omega, strOk_app (strOk_app o1 od) o2⟩ _ ?_
    simp (maxSteps := 10000000) (disch := first | omega | (simp only [List.length_cons, List.length_nil, List.length_append, List.length_map] <;> omega) | (unfold CleanOK; with_unfolding_all rfl) | (with_unfolding_all rfl)) only [u_v0, u_vS, u_c, u_lft, u_op, u_op1, u_op2, u_test, u_tst, u_anil, u_acons, u_ac1, u_ac2, u_tup, u_tu1, u_lst, u_ls1, u_not, u_nt1, u_and, u_and1t, u_and1f, u_andv, u_andv1t, u_andv1f, u_or, u_or1t, u_or1f, u_orv, u_orv1t, u_orv1f, u_notv, u_nv1, u_ife, u_ife1t, u_ife1f, u_ifs, u_ifs1t, u_ifs1f, u_nx, u_ct, u_seq, u_then, u_then2, u_then3, u_drop, u_mask0, u_mask1, u_expr, u_ex1, u_ret, u_rt1, u_set, u_st1, u_call, u_ca1, u_call0, u_B, u_b1, u_chain, u_ch1, u_ch2, u_ch3t, u_ch3f, u_ch4, u_it, u_it1t, u_it1r, u_itR, u_zip, u_zi1tt, u_zi1tr, u_zi1rt, u_zi1rr, u_zi2, u_zi3, u_rng, u_rn1, u_nxtT, u_nxtL, u_nxL, u_nxtR, u_nxtZ, u_zz1, u_zz2, u_zz3, u_nxtE, u_ee1, u_ee2, u_lenT, u_lenL, u_lnL, u_lenR, u_lenZ, u_lenE, u_comp, u_co1, u_co2, u_w0, u_w1, u_compL, u_clA0, u_clA1, u_clB, u_clCt, u_clCf, u_clD, u_clE, u_yes, u_setN, u_set2, u_set3, u_asg, u_as1, u_as2, u_put, u_pu1, u_pu2, u_pu3, u_pu4, u_for, u_fo1, u_forS, u_fA, u_fB0, u_fB1, u_fC, u_con1, u_con2, u_con3, u_con4, u_M, u_me1, u_me2, u_me3, u_M2, u_mm1t, u_rev, u_rv1t, u_rv1r, u_rvL, u_newD, u_ixo, u_ixT, u_ixR, u_ixRl, u_ixRd, u_ixRf, u_gK1, u_ixN, u_kLt, u_kLe, u_kGt, u_kGe, u_kSub, u_kAdd, u_mul, u_mulr, u_addT, u_addL, u_addL1, u_eq, u_ne, u_eq2t, u_eq2f, u_tdR, u_tdL, u_tdLL, u_tdTT, u_tdT, u_tdS0, u_tdS1, u_tdC, u_eqvB, u_eqvN, u_eqvNI, u_eqvIN, u_eqvNT, u_eqvTN, u_eqv01, u_eqv10, u_in, u_notin, u_in2lt, u_in2lf, u_in2tt, u_in2tf, u_any0, u_any1, u_lenTup, u_lenRef, u_lenR1, u_lst?, u_tupT, u_tupR, u_tpo, u_listT, u_listR, u_lso, u_intB, u_min2, u_ints?, u_ints0, u_ints1, u_icn, u_minR, u_min?, u_maxR, u_max?, u_srtR, u_srtT, u_srt?, u_sruR, u_sru?, u_sI0, u_sI1, u_iI0, u_iI1, u_sU0, u_sU1, u_iU0, u_iU1, u_sumR, u_sumT, u_sum?, u_bls?, u_bls0, u_bls1, u_bcn, u_allR, u_anyR, u_all?, u_any?, u_aB0, u_aB1, u_oB0, u_oB1, u_app, u_apL, u_ext, u_exL, u_isL, u_isL1, u_kput, u_puL, u_puN, u_puD, u_pk2, u_hasK0, u_hasK1, u_repK0, u_repK1, u_neg, u_ng1, u_whl, u_wh1t, u_wh1f, u_wh2, u_lock, u_lkA, u_lkB, u_lkC, u_lkD, u_keys, u_ke1, u_ke2, u_kys0, u_kys1, u_dt, u_df, u_ct1, u_ct2, u_g0, u_gS, u_gN, toD_non, toD_bl, toD_int, eqv_int, eqv_tup, eqv_lst, eqv_all0, eqv_all1, clean_flat, Option.bind_some, List.length_cons, List.length_nil, List.length_append, List.length_set, List.cons_append, List.nil_append, List.set_cons_zero, List.set_cons_succ, List.take_succ_cons, List.take_zero, List.map_cons, List.map_nil, List.reverse_cons, List.reverse_nil, List.contains_cons, List.contains_nil, Bool.true_or, Bool.or_true, Bool.false_or, Bool.or_false, Bool.true_and, Bool.and_true, Bool.false_and, Bool.and_false, Bool.not_true, Bool.not_false, if_pos, if_neg, List.sum_cons, List.sum_nil, decide_true, decide_false, beq_self_eq_true, Nat.reduceBEq, Int.reduceNeg, Nat.zero_add, Int.zero_add, Int.add_zero, Int.cast_ofNat_Int, Nat.reduceAdd, Nat.reduceSub, Nat.reduceLeDiff, Nat.lt_irrefl, Nat.reduceEqDiff, Int.reduceLT, Int.reduceLE, Int.reduceEq, Int.reduceAdd, Int.reduceSub, Int.reduceMul, Int.reduceToNat, ↓reduceIte, not_false_eq_true, not_true_eq_false, Int.zero_le_ofNat, Nat.min_eq_left, Nat.min_eq_right, u_mod, u_fdW, u_lenS, u_ixS, u_ixSo, hd, hat, hon, hw, u_sl, u_sl1, u_sl2, u_sl3, u_oN, u_oS, u_oS1, u_slS, u_addS]
  · refine fin (cutS t none (some at_) ++ cutS t (some (at_ + 1)) none) ⟨by omega, strOk_app o1 o3⟩ _ ?_
    simp (maxSteps := 10000000) (disch := first | omega | (simp only [List.length_cons, List.length_nil, List.length_append, List.length_map] <;> omega) | (unfold CleanOK; with_unfolding_all rfl) | (with_unfolding_all rfl)) only [u_v0, u_vS, u_c, u_lft, u_op, u_op1, u_op2, u_test, u_tst, u_anil, u_acons, u_ac1, u_ac2, u_tup, u_tu1, u_lst, u_ls1, u_not, u_nt1, u_and, u_and1t, u_and1f, u_andv, u_andv1t, u_andv1f, u_or, u_or1t, u_or1f, u_orv, u_orv1t, u_orv1f, u_notv, u_nv1, u_ife, u_ife1t, u_ife1f, u_ifs, u_ifs1t, u_ifs1f, u_nx, u_ct, u_seq, u_then, u_then2, u_then3, u_drop, u_mask0, u_mask1, u_expr, u_ex1, u_ret, u_rt1, u_set, u_st1, u_call, u_ca1, u_call0, u_B, u_b1, u_chain, u_ch1, u_ch2, u_ch3t, u_ch3f, u_ch4, u_it, u_it1t, u_it1r, u_itR, u_zip, u_zi1tt, u_zi1tr, u_zi1rt, u_zi1rr, u_zi2, u_zi3, u_rng, u_rn1, u_nxtT, u_nxtL, u_nxL, u_nxtR, u_nxtZ, u_zz1, u_zz2, u_zz3, u_nxtE, u_ee1, u_ee2, u_lenT, u_lenL, u_lnL, u_lenR, u_lenZ, u_lenE, u_comp, u_co1, u_co2, u_w0, u_w1, u_compL, u_clA0, u_clA1, u_clB, u_clCt, u_clCf, u_clD, u_clE, u_yes, u_setN, u_set2, u_set3, u_asg, u_as1, u_as2, u_put, u_pu1, u_pu2, u_pu3, u_pu4, u_for, u_fo1, u_forS, u_fA, u_fB0, u_fB1, u_fC, u_con1, u_con2, u_con3, u_con4, u_M, u_me1, u_me2, u_me3, u_M2, u_mm1t, u_rev, u_rv1t, u_rv1r, u_rvL, u_newD, u_ixo, u_ixT, u_ixR, u_ixRl, u_ixRd, u_ixRf, u_gK1, u_ixN, u_kLt, u_kLe, u_kGt, u_kGe, u_kSub, u_kAdd, u_mul, u_mulr, u_addT, u_addL, u_addL1, u_eq, u_ne, u_eq2t, u_eq2f, u_tdR, u_tdL, u_tdLL, u_tdTT, u_tdT, u_tdS0, u_tdS1, u_tdC, u_eqvB, u_eqvN, u_eqvNI, u_eqvIN, u_eqvNT, u_eqvTN, u_eqv01, u_eqv10, u_in, u_notin, u_in2lt, u_in2lf, u_in2tt, u_in2tf, u_any0, u_any1, u_lenTup, u_lenRef, u_lenR1, u_lst?, u_tupT, u_tupR, u_tpo, u_listT, u_listR, u_lso, u_intB, u_min2, u_ints?, u_ints0, u_ints1, u_icn, u_minR, u_min?, u_maxR, u_max?, u_srtR, u_srtT, u_srt?, u_sruR, u_sru?, u_sI0, u_sI1, u_iI0, u_iI1, u_sU0, u_sU1, u_iU0, u_iU1, u_sumR, u_sumT, u_sum?, u_bls?, u_bls0, u_bls1, u_bcn, u_allR, u_anyR, u_all?, u_any?, u_aB0, u_aB1, u_oB0, u_oB1, u_app, u_apL, u_ext, u_exL, u_isL, u_isL1, u_kput, u_puL, u_puN, u_puD, u_pk2, u_hasK0, u_hasK1, u_repK0, u_repK1, u_neg, u_ng1, u_whl, u_wh1t, u_wh1f, u_wh2, u_lock, u_lkA, u_lkB, u_lkC, u_lkD, u_keys, u_ke1, u_ke2, u_kys0, u_kys1, u_dt, u_df, u_ct1, u_ct2, u_g0, u_gS, u_gN, toD_non, toD_bl, toD_int, eqv_int, eqv_tup, eqv_lst, eqv_all0, eqv_all1, clean_flat, Option.bind_some, List.length_cons, List.length_nil, List.length_append, List.length_set, List.cons_append, List.nil_append, List.set_cons_zero, List.set_cons_succ, List.take_succ_cons, List.take_zero, List.map_cons, List.map_nil, List.reverse_cons, List.reverse_nil, List.contains_cons, List.contains_nil, Bool.true_or, Bool.or_true, Bool.false_or, Bool.or_false, Bool.true_and, Bool.and_true, Bool.false_and, Bool.and_false, Bool.not_true, Bool.not_false, if_pos, if_neg, List.sum_cons, List.sum_nil, decide_true, decide_false, beq_self_eq_true, Nat.reduceBEq, Int.reduceNeg, Nat.zero_add, Int.zero_add, Int.add_zero, Int.cast_ofNat_Int, Nat.reduceAdd, Nat.reduceSub, Nat.reduceLeDiff, Nat.lt_irrefl, Nat.reduceEqDiff, Int.reduceLT, Int.reduceLE, Int.reduceEq, Int.reduceAdd, Int.reduceSub, Int.reduceMul, Int.reduceToNat, ↓reduceIte, not_false_eq_true, not_true_eq_false, Int.zero_le_ofNat, Nat.min_eq_left, Nat.min_eq_right, u_mod, u_fdW, u_lenS, u_ixS, u_ixSo, hd, hat, hon, hw, u_sl, u_sl1, u_sl2, u_sl3, u_oN, u_oS, u_oS1, u_slS, u_addS]
  · refine fin (cutS t none (some at_) ++ ⟨#[d]⟩ ++ cutS t (some (at_ + 1)) none) ⟨by omega, strOk_app (strOk_app o1 od) o3⟩ _ ?_
    simp (maxSteps := 10000000) (disch := first | omega | (simp only [List.length_cons, List.length_nil, List.length_append, List.length_map] <;> omega) | (unfold CleanOK; with_unfolding_all rfl) | (with_unfolding_all rfl)) only [u_v0, u_vS, u_c, u_lft, u_op, u_op1, u_op2, u_test, u_tst, u_anil, u_acons, u_ac1, u_ac2, u_tup, u_tu1, u_lst, u_ls1, u_not, u_nt1, u_and, u_and1t, u_and1f, u_andv, u_andv1t, u_andv1f, u_or, u_or1t, u_or1f, u_orv, u_orv1t, u_orv1f, u_notv, u_nv1, u_ife, u_ife1t, u_ife1f, u_ifs, u_ifs1t, u_ifs1f, u_nx, u_ct, u_seq, u_then, u_then2, u_then3, u_drop, u_mask0, u_mask1, u_expr, u_ex1, u_ret, u_rt1, u_set, u_st1, u_call, u_ca1, u_call0, u_B, u_b1, u_chain, u_ch1, u_ch2, u_ch3t, u_ch3f, u_ch4, u_it, u_it1t, u_it1r, u_itR, u_zip, u_zi1tt, u_zi1tr, u_zi1rt, u_zi1rr, u_zi2, u_zi3, u_rng, u_rn1, u_nxtT, u_nxtL, u_nxL, u_nxtR, u_nxtZ, u_zz1, u_zz2, u_zz3, u_nxtE, u_ee1, u_ee2, u_lenT, u_lenL, u_lnL, u_lenR, u_lenZ, u_lenE, u_comp, u_co1, u_co2, u_w0, u_w1, u_compL, u_clA0, u_clA1, u_clB, u_clCt, u_clCf, u_clD, u_clE, u_yes, u_setN, u_set2, u_set3, u_asg, u_as1, u_as2, u_put, u_pu1, u_pu2, u_pu3, u_pu4, u_for, u_fo1, u_forS, u_fA, u_fB0, u_fB1, u_fC, u_con1, u_con2, u_con3, u_con4, u_M, u_me1, u_me2, u_me3, u_M2, u_mm1t, u_rev, u_rv1t, u_rv1r, u_rvL, u_newD, u_ixo, u_ixT, u_ixR, u_ixRl, u_ixRd, u_ixRf, u_gK1, u_ixN, u_kLt, u_kLe, u_kGt, u_kGe, u_kSub, u_kAdd, u_mul, u_mulr, u_addT, u_addL, u_addL1, u_eq, u_ne, u_eq2t, u_eq2f, u_tdR, u_tdL, u_tdLL, u_tdTT, u_tdT, u_tdS0, u_tdS1, u_tdC, u_eqvB, u_eqvN, u_eqvNI, u_eqvIN, u_eqvNT, u_eqvTN, u_eqv01, u_eqv10, u_in, u_notin, u_in2lt, u_in2lf, u_in2tt, u_in2tf, u_any0, u_any1, u_lenTup, u_lenRef, u_lenR1, u_lst?, u_tupT, u_tupR, u_tpo, u_listT, u_listR, u_lso, u_intB, u_min2, u_ints?, u_ints0, u_ints1, u_icn, u_minR, u_min?, u_maxR, u_max?, u_srtR, u_srtT, u_srt?, u_sruR, u_sru?, u_sI0, u_sI1, u_iI0, u_iI1, u_sU0, u_sU1, u_iU0, u_iU1, u_sumR, u_sumT, u_sum?, u_bls?, u_bls0, u_bls1, u_bcn, u_allR, u_anyR, u_all?, u_any?, u_aB0, u_aB1, u_oB0, u_oB1, u_app, u_apL, u_ext, u_exL, u_isL, u_isL1, u_kput, u_puL, u_puN, u_puD, u_pk2, u_hasK0, u_hasK1, u_repK0, u_repK1, u_neg, u_ng1, u_whl, u_wh1t, u_wh1f, u_wh2, u_lock, u_lkA, u_lkB, u_lkC, u_lkD, u_keys, u_ke1, u_ke2, u_kys0, u_kys1, u_dt, u_df, u_ct1, u_ct2, u_g0, u_gS, u_gN, toD_non, toD_bl, toD_int, eqv_int, eqv_tup, eqv_lst, eqv_all0, eqv_all1, clean_flat, Option.bind_some, List.length_cons, List.length_nil, List.length_append, List.length_set, List.cons_append, List.nil_append, List.set_cons_zero, List.set_cons_succ, List.take_succ_cons, List.take_zero, List.map_cons, List.map_nil, List.reverse_cons, List.reverse_nil, List.contains_cons, List.contains_nil, Bool.true_or, Bool.or_true, Bool.false_or, Bool.or_false, Bool.true_and, Bool.and_true, Bool.false_and, Bool.and_false, Bool.not_true, Bool.not_false, if_pos, if_neg, List.sum_cons, List.sum_nil, decide_true, decide_false, beq_self_eq_true, Nat.reduceBEq, Int.reduceNeg, Nat.zero_add, Int.zero_add, Int.add_zero, Int.cast_ofNat_Int, Nat.reduceAdd, Nat.reduceSub, Nat.reduceLeDiff, Nat.lt_irrefl, Nat.reduceEqDiff, Int.reduceLT, Int.reduceLE, Int.reduceEq, Int.reduceAdd, Int.reduceSub, Int.reduceMul, Int.reduceToNat, ↓reduceIte, not_false_eq_true, not_true_eq_false, Int.zero_le_ofNat, Nat.min_eq_left, Nat.min_eq_right, u_mod, u_fdW, u_lenS, u_ixS, u_ixSo, hd, hat, hon, hw, u_sl, u_sl1, u_sl2, u_sl3, u_oN, u_oS, u_oS1, u_slS, u_addS]
  · refine fin (cutS t none (some at_) ++ ⟨#[d]⟩ ++ cutS t (some (at_ + 1)) none) ⟨by omega, strOk_app (strOk_app o1 od) o3⟩ _ ?_
    simp (maxSteps := 10000000) (disch := first | omega | (simp only [List.length_cons, List.length_nil, List.length_append, List.length_map] <;> omega) | (unfold CleanOK; with_unfolding_all rfl) | (with_unfolding_all rfl)) only [u_v0, u_vS, u_c, u_lft, u_op, u_op1, u_op2, u_test, u_tst, u_anil, u_acons, u_ac1, u_ac2, u_tup, u_tu1, u_lst, u_ls1, u_not, u_nt1, u_and, u_and1t, u_and1f, u_andv, u_andv1t, u_andv1f, u_or, u_or1t, u_or1f, u_orv, u_orv1t, u_orv1f, u_notv, u_nv1, u_ife, u_ife1t, u_ife1f, u_ifs, u_ifs1t, u_ifs1f, u_nx, u_ct, u_seq, u_then, u_then2, u_then3, u_drop, u_mask0, u_mask1, u_expr, u_ex1, u_ret, u_rt1, u_set, u_st1, u_call, u_ca1, u_call0, u_B, u_b1, u_chain, u_ch1, u_ch2, u_ch3t, u_ch3f, u_ch4, u_it, u_it1t, u_it1r, u_itR, u_zip, u_zi1tt, u_zi1tr, u_zi1rt, u_zi1rr, u_zi2, u_zi3, u_rng, u_rn1, u_nxtT, u_nxtL, u_nxL, u_nxtR, u_nxtZ, u_zz1, u_zz2, u_zz3, u_nxtE, u_ee1, u_ee2, u_lenT, u_lenL, u_lnL, u_lenR, u_lenZ, u_lenE, u_comp, u_co1, u_co2, u_w0, u_w1, u_compL, u_clA0, u_clA1, u_clB, u_clCt, u_clCf, u_clD, u_clE, u_yes, u_setN, u_set2, u_set3, u_asg, u_as1, u_as2, u_put, u_pu1, u_pu2, u_pu3, u_pu4, u_for, u_fo1, u_forS, u_fA, u_fB0, u_fB1, u_fC, u_con1, u_con2, u_con3, u_con4, u_M, u_me1, u_me2, u_me3, u_M2, u_mm1t, u_rev, u_rv1t, u_rv1r, u_rvL, u_newD, u_ixo, u_ixT, u_ixR, u_ixRl, u_ixRd, u_ixRf, u_gK1, u_ixN, u_kLt, u_kLe, u_kGt, u_kGe, u_kSub, u_kAdd, u_mul, u_mulr, u_addT, u_addL, u_addL1, u_eq, u_ne, u_eq2t, u_eq2f, u_tdR, u_tdL, u_tdLL, u_tdTT, u_tdT, u_tdS0, u_tdS1, u_tdC, u_eqvB, u_eqvN, u_eqvNI, u_eqvIN, u_eqvNT, u_eqvTN, u_eqv01, u_eqv10, u_in, u_notin, u_in2lt, u_in2lf, u_in2tt, u_in2tf, u_any0, u_any1, u_lenTup, u_lenRef, u_lenR1, u_lst?, u_tupT, u_tupR, u_tpo, u_listT, u_listR, u_lso, u_intB, u_min2, u_ints?, u_ints0, u_ints1, u_icn, u_minR, u_min?, u_maxR, u_max?, u_srtR, u_srtT, u_srt?, u_sruR, u_sru?, u_sI0, u_sI1, u_iI0, u_iI1, u_sU0, u_sU1, u_iU0, u_iU1, u_sumR, u_sumT, u_sum?, u_bls?, u_bls0, u_bls1, u_bcn, u_allR, u_anyR, u_all?, u_any?, u_aB0, u_aB1, u_oB0, u_oB1, u_app, u_apL, u_ext, u_exL, u_isL, u_isL1, u_kput, u_puL, u_puN, u_puD, u_pk2, u_hasK0, u_hasK1, u_repK0, u_repK1, u_neg, u_ng1, u_whl, u_wh1t, u_wh1f, u_wh2, u_lock, u_lkA, u_lkB, u_lkC, u_lkD, u_keys, u_ke1, u_ke2, u_kys0, u_kys1, u_dt, u_df, u_ct1, u_ct2, u_g0, u_gS, u_gN, toD_non, toD_bl, toD_int, eqv_int, eqv_tup, eqv_lst, eqv_all0, eqv_all1, clean_flat, Option.bind_some, List.length_cons, List.length_nil, List.length_append, List.length_set, List.cons_append, List.nil_append, List.set_cons_zero, List.set_cons_succ, List.take_succ_cons, List.take_zero, List.map_cons, List.map_nil, List.reverse_cons, List.reverse_nil, List.contains_cons, List.contains_nil, Bool.true_or, Bool.or_true, Bool.false_or, Bool.or_false, Bool.true_and, Bool.and_true, Bool.false_and, Bool.and_false, Bool.not_true, Bool.not_false, if_pos, if_neg, List.sum_cons, List.sum_nil, decide_true, decide_false, beq_self_eq_true, Nat.reduceBEq, Int.reduceNeg, Nat.zero_add, Int.zero_add, Int.add_zero, Int.cast_ofNat_Int, Nat.reduceAdd, Nat.reduceSub, Nat.reduceLeDiff, Nat.lt_irrefl, Nat.reduceEqDiff, Int.reduceLT, Int.reduceLE, Int.reduceEq, Int.reduceAdd, Int.reduceSub, Int.reduceMul, Int.reduceToNat, ↓reduceIte, not_false_eq_true, not_true_eq_false, Int.zero_le_ofNat, Nat.min_eq_left, Nat.min_eq_right, u_mod, u_fdW, u_lenS, u_ixS, u_ixSo, hd, hat, hon, hw, u_sl, u_sl1, u_sl2, u_sl3, u_oN, u_oS, u_oS1, u_slS, u_addS]
  · refine fin (cutS t none (some at_) ++ cutS t (some on) none) ⟨by omega, strOk_app o1 o4⟩ _ ?_
    simp (maxSteps := 10000000) (disch := first | omega | (simp only [List.length_cons, List.length_nil, List.length_append, List.length_map] <;> omega) | (unfold CleanOK; with_unfolding_all rfl) | (with_unfolding_all rfl)) only [u_v0, u_vS, u_c, u_lft, u_op, u_op1, u_op2, u_test, u_tst, u_anil, u_acons, u_ac1, u_ac2, u_tup, u_tu1, u_lst, u_ls1, u_not, u_nt1, u_and, u_and1t, u_and1f, u_andv, u_andv1t, u_andv1f, u_or, u_or1t, u_or1f, u_orv, u_orv1t, u_orv1f, u_notv, u_nv1, u_ife, u_ife1t, u_ife1f, u_ifs, u_ifs1t, u_ifs1f, u_nx, u_ct, u_seq, u_then, u_then2, u_then3, u_drop, u_mask0, u_mask1, u_expr, u_ex1, u_ret, u_rt1, u_set, u_st1, u_call, u_ca1, u_call0, u_B, u_b1, u_chain, u_ch1, u_ch2, u_ch3t, u_ch3f, u_ch4, u_it, u_it1t, u_it1r, u_itR, u_zip, u_zi1tt, u_zi1tr, u_zi1rt, u_zi1rr, u_zi2, u_zi3, u_rng, u_rn1, u_nxtT, u_nxtL, u_nxL, u_nxtR, u_nxtZ, u_zz1, u_zz2, u_zz3, u_nxtE, u_ee1, u_ee2, u_lenT, u_lenL, u_lnL, u_lenR, u_lenZ, u_lenE, u_comp, u_co1, u_co2, u_w0, u_w1, u_compL, u_clA0, u_clA1, u_clB, u_clCt, u_clCf, u_clD, u_clE, u_yes, u_setN, u_set2, u_set3, u_asg, u_as1, u_as2, u_put, u_pu1, u_pu2, u_pu3, u_pu4, u_for, u_fo1, u_forS, u_fA, u_fB0, u_fB1, u_fC, u_con1, u_con2, u_con3, u_con4, u_M, u_me1, u_me2, u_me3, u_M2, u_mm1t, u_rev, u_rv1t, u_rv1r, u_rvL, u_newD, u_ixo, u_ixT, u_ixR, u_ixRl, u_ixRd, u_ixRf, u_gK1, u_ixN, u_kLt, u_kLe, u_kGt, u_kGe, u_kSub, u_kAdd, u_mul, u_mulr, u_addT, u_addL, u_addL1, u_eq, u_ne, u_eq2t, u_eq2f, u_tdR, u_tdL, u_tdLL, u_tdTT, u_tdT, u_tdS0, u_tdS1, u_tdC, u_eqvB, u_eqvN, u_eqvNI, u_eqvIN, u_eqvNT, u_eqvTN, u_eqv01, u_eqv10, u_in, u_notin, u_in2lt, u_in2lf, u_in2tt, u_in2tf, u_any0, u_any1, u_lenTup, u_lenRef, u_lenR1, u_lst?, u_tupT, u_tupR, u_tpo, u_listT, u_listR, u_lso, u_intB, u_min2, u_ints?, u_ints0, u_ints1, u_icn, u_minR, u_min?, u_maxR, u_max?, u_srtR, u_srtT, u_srt?, u_sruR, u_sru?, u_sI0, u_sI1, u_iI0, u_iI1, u_sU0, u_sU1, u_iU0, u_iU1, u_sumR, u_sumT, u_sum?, u_bls?, u_bls0, u_bls1, u_bcn, u_allR, u_anyR, u_all?, u_any?, u_aB0, u_aB1, u_oB0, u_oB1, u_app, u_apL, u_ext, u_exL, u_isL, u_isL1, u_kput, u_puL, u_puN, u_puD, u_pk2, u_hasK0, u_hasK1, u_repK0, u_repK1, u_neg, u_ng1, u_whl, u_wh1t, u_wh1f, u_wh2, u_lock, u_lkA, u_lkB, u_lkC, u_lkD, u_keys, u_ke1, u_ke2, u_kys0, u_kys1, u_dt, u_df, u_ct1, u_ct2, u_g0, u_gS, u_gN, toD_non, toD_bl, toD_int, eqv_int, eqv_tup, eqv_lst, eqv_all0, eqv_all1, clean_flat, Option.bind_some, List.length_cons, List.length_nil, List.length_append, List.length_set, List.cons_append, List.nil_append, List.set_cons_zero, List.set_cons_succ, List.take_succ_cons, List.take_zero, List.map_cons, List.map_nil, List.reverse_cons, List.reverse_nil, List.contains_cons, List.contains_nil, Bool.true_or, Bool.or_true, Bool.false_or, Bool.or_false, Bool.true_and, Bool.and_true, Bool.false_and, Bool.and_false, Bool.not_true, Bool.not_false, if_pos, if_neg, List.sum_cons, List.sum_nil, decide_true, decide_false, beq_self_eq_true, Nat.reduceBEq, Int.reduceNeg, Nat.zero_add, Int.zero_add, Int.add_zero, Int.cast_ofNat_Int, Nat.reduceAdd, Nat.reduceSub, Nat.reduceLeDiff, Nat.lt_irrefl, Nat.reduceEqDiff, Int.reduceLT, Int.reduceLE, Int.reduceEq, Int.reduceAdd, Int.reduceSub, Int.reduceMul, Int.reduceToNat, ↓reduceIte, not_false_eq_true, not_true_eq_false, Int.zero_le_ofNat, Nat.min_eq_left, Nat.min_eq_right, u_mod, u_fdW, u_lenS, u_ixS, u_ixSo, hd, hat, hon, hw, u_sl, u_sl1, u_sl2, u_sl3, u_oN, u_oS, u_oS1, u_slS, u_addS]
  · refine fin (cutS t none (some on) ++ cutS t (some at_) none) ⟨by omega, strOk_app o5 o2⟩ _ ?_
    simp (maxSteps := 10000000) (disch := first | omega | (simp only [List.length_cons, List.length_nil, List.length_append, List.length_map] <;> omega) | (unfold CleanOK; with_unfolding_all rfl) | (with_unfolding_all rfl)) only [u_v0, u_vS, u_c, u_lft, u_op, u_op1, u_op2, u_test, u_tst, u_anil, u_acons, u_ac1, u_ac2, u_tup, u_tu1, u_lst, u_ls1, u_not, u_nt1, u_and, u_and1t, u_and1f, u_andv, u_andv1t, u_andv1f, u_or, u_or1t, u_or1f, u_orv, u_orv1t, u_orv1f, u_notv, u_nv1, u_ife, u_ife1t, u_ife1f, u_ifs, u_ifs1t, u_ifs1f, u_nx, u_ct, u_seq, u_then, u_then2, u_then3, u_drop, u_mask0, u_mask1, u_expr, u_ex1, u_ret, u_rt1, u_set, u_st1, u_call, u_ca1, u_call0, u_B, u_b1, u_chain, u_ch1, u_ch2, u_ch3t, u_ch3f, u_ch4, u_it, u_it1t, u_it1r, u_itR, u_zip, u_zi1tt, u_zi1tr, u_zi1rt, u_zi1rr, u_zi2, u_zi3, u_rng, u_rn1, u_nxtT, u_nxtL, u_nxL, u_nxtR, u_nxtZ, u_zz1, u_zz2, u_zz3, u_nxtE, u_ee1, u_ee2, u_lenT, u_lenL, u_lnL, u_lenR, u_lenZ, u_lenE, u_comp, u_co1, u_co2, u_w0, u_w1, u_compL, u_clA0, u_clA1, u_clB, u_clCt, u_clCf, u_clD, u_clE, u_yes, u_setN, u_set2, u_set3, u_asg, u_as1, u_as2, u_put, u_pu1, u_pu2, u_pu3, u_pu4, u_for, u_fo1, u_forS, u_fA, u_fB0, u_fB1, u_fC, u_con1, u_con2, u_con3, u_con4, u_M, u_me1, u_me2, u_me3, u_M2, u_mm1t, u_rev, u_rv1t, u_rv1r, u_rvL, u_newD, u_ixo, u_ixT, u_ixR, u_ixRl, u_ixRd, u_ixRf, u_gK1, u_ixN, u_kLt, u_kLe, u_kGt, u_kGe, u_kSub, u_kAdd, u_mul, u_mulr, u_addT, u_addL, u_addL1, u_eq, u_ne, u_eq2t, u_eq2f, u_tdR, u_tdL, u_tdLL, u_tdTT, u_tdT, u_tdS0, u_tdS1, u_tdC, u_eqvB, u_eqvN, u_eqvNI, u_eqvIN, u_eqvNT, u_eqvTN, u_eqv01, u_eqv10, u_in, u_notin, u_in2lt, u_in2lf, u_in2tt, u_in2tf, u_any0, u_any1, u_lenTup, u_lenRef, u_lenR1, u_lst?, u_tupT, u_tupR, u_tpo, u_listT, u_listR, u_lso, u_intB, u_min2, u_ints?, u_ints0, u_ints1, u_icn, u_minR, u_min?, u_maxR, u_max?, u_srtR, u_srtT, u_srt?, u_sruR, u_sru?, u_sI0, u_sI1, u_iI0, u_iI1, u_sU0, u_sU1, u_iU0, u_iU1, u_sumR, u_sumT, u_sum?, u_bls?, u_bls0, u_bls1, u_bcn, u_allR, u_anyR, u_all?, u_any?, u_aB0, u_aB1, u_oB0, u_oB1, u_app, u_apL, u_ext, u_exL, u_isL, u_isL1, u_kput, u_puL, u_puN, u_puD, u_pk2, u_hasK0, u_hasK1, u_repK0, u_repK1, u_neg, u_ng1, u_whl, u_wh1t, u_wh1f, u_wh2, u_lock, u_lkA, u_lkB, u_lkC, u_lkD, u_keys, u_ke1, u_ke2, u_kys0, u_kys1, u_dt, u_df, u_ct1, u_ct2, u_g0, u_gS, u_gN, toD_non, toD_bl, toD_int, eqv_int, eqv_tup, eqv_lst, eqv_all0, eqv_all1, clean_flat, Option.bind_some, List.length_cons, List.length_nil, List.length_append, List.length_set, List.cons_append, List.nil_append, List.set_cons_zero, List.set_cons_succ, List.take_succ_cons, List.take_zero, List.map_cons, List.map_nil, List.reverse_cons, List.reverse_nil, List.contains_cons, List.contains_nil, Bool.true_or, Bool.or_true, Bool.false_or, Bool.or_false, Bool.true_and, Bool.and_true, Bool.false_and, Bool.and_false, Bool.not_true, Bool.not_false, if_pos, if_neg, List.sum_cons, List.sum_nil, decide_true, decide_false, beq_self_eq_true, Nat.reduceBEq, Int.reduceNeg, Nat.zero_add, Int.zero_add, Int.add_zero, Int.cast_ofNat_Int, Nat.reduceAdd, Nat.reduceSub, Nat.reduceLeDiff, Nat.lt_irrefl, Nat.reduceEqDiff, Int.reduceLT, Int.reduceLE, Int.reduceEq, Int.reduceAdd, Int.reduceSub, Int.reduceMul, Int.reduceToNat, ↓reduceIte, not_false_eq_true, not_true_eq_false, Int.zero_le_ofNat, Nat.min_eq_left, Nat.min_eq_right, u_mod, u_fdW, u_lenS, u_ixS, u_ixSo, hd, hat, hon, hw, u_sl, u_sl1, u_sl2, u_sl3, u_oN, u_oS, u_oS1, u_slS, u_addS]
  · obtain ⟨e, rfl⟩ := Int.eq_ofNat_of_zero_le hr0
    rcases (show e = 0 ∨ e = 1 ∨ e = 2 ∨ e = 3 ∨ e = 4 by omega) with rfl | rfl | rfl | rfl | rfl
    · refine fin2 (t ++ Str.mk #[32]) ⟨by omega, strOk_app ht o6⟩ _ ⟨[.lst [.str (t ++ Str.mk #[32]), .str (Str.mk #[32] ++ t), .str (cutS t (some at_) none ++ cutS t none (some at_)), .str (Str.mk #[]), .str (t ++ t)]], ?_⟩
      simp (maxSteps := 10000000) (disch := first | omega | (simp only [List.length_cons, List.length_nil, List.length_append, List.length_map] <;> omega) | (unfold CleanOK; with_unfolding_all rfl) | (with_unfolding_all rfl)) only [u_v0, u_vS, u_c, u_lft, u_op, u_op1, u_op2, u_test, u_tst, u_anil, u_acons, u_ac1, u_ac2, u_tup, u_tu1, u_lst, u_ls1, u_not, u_nt1, u_and, u_and1t, u_and1f, u_andv, u_andv1t, u_andv1f, u_or, u_or1t, u_or1f, u_orv, u_orv1t, u_orv1f, u_notv, u_nv1, u_ife, u_ife1t, u_ife1f, u_ifs, u_ifs1t, u_ifs1f, u_nx, u_ct, u_seq, u_then, u_then2, u_then3, u_drop, u_mask0, u_mask1, u_expr, u_ex1, u_ret, u_rt1, u_set, u_st1, u_call, u_ca1, u_call0, u_B, u_b1, u_chain, u_ch1, u_ch2, u_ch3t, u_ch3f, u_ch4, u_it, u_it1t, u_it1r, u_itR, u_zip, u_zi1tt, u_zi1tr, u_zi1rt, u_zi1rr, u_zi2, u_zi3, u_rng, u_rn1, u_nxtT, u_nxtL, u_nxL, u_nxtR, u_nxtZ, u_zz1, u_zz2, u_zz3, u_nxtE, u_ee1, u_ee2, u_lenT, u_lenL, u_lnL, u_lenR, u_lenZ, u_lenE, u_comp, u_co1, u_co2, u_w0, u_w1, u_compL, u_clA0, u_clA1, u_clB, u_clCt, u_clCf, u_clD, u_clE, u_yes, u_setN, u_set2, u_set3, u_asg, u_as1, u_as2, u_put, u_pu1, u_pu2, u_pu3, u_pu4, u_for, u_fo1, u_forS, u_fA, u_fB0, u_fB1, u_fC, u_con1, u_con2, u_con3, u_con4, u_M, u_me1, u_me2, u_me3, u_M2, u_mm1t, u_rev, u_rv1t, u_rv1r, u_rvL, u_newD, u_ixo, u_ixT, u_ixR, u_ixRl, u_ixRd, u_ixRf, u_gK1, u_kLt, u_kLe, u_kGt, u_kGe, u_kSub, u_kAdd, u_mul, u_mulr, u_addT, u_addL, u_addL1, u_eq, u_ne, u_eq2t, u_eq2f, u_tdR, u_tdL, u_tdLL, u_tdTT, u_tdT, u_tdS0, u_tdS1, u_tdC, u_eqvB, u_eqvN, u_eqvNI, u_eqvIN, u_eqvNT, u_eqvTN, u_eqv01, u_eqv10, u_in, u_notin, u_in2lt, u_in2lf, u_in2tt, u_in2tf, u_any0, u_any1, u_lenTup, u_lenRef, u_lenR1, u_lst?, u_tupT, u_tupR, u_tpo, u_listT, u_listR, u_lso, u_intB, u_min2, u_ints?, u_ints0, u_ints1, u_icn, u_minR, u_min?, u_maxR, u_max?, u_srtR, u_srtT, u_srt?, u_sruR, u_sru?, u_sI0, u_sI1, u_iI0, u_iI1, u_sU0, u_sU1, u_iU0, u_iU1, u_sumR, u_sumT, u_sum?, u_bls?, u_bls0, u_bls1, u_bcn, u_allR, u_anyR, u_all?, u_any?, u_aB0, u_aB1, u_oB0, u_oB1, u_app, u_apL, u_ext, u_exL, u_isL, u_isL1, u_kput, u_puL, u_puN, u_puD, u_pk2, u_hasK0, u_hasK1, u_repK0, u_repK1, u_neg, u_ng1, u_whl, u_wh1t, u_wh1f, u_wh2, u_lock, u_lkA, u_lkB, u_lkC, u_lkD, u_keys, u_ke1, u_ke2, u_kys0, u_kys1, u_dt, u_df, u_ct1, u_ct2, u_g0, u_gS, u_gN, toD_non, toD_bl, toD_int, eqv_int, eqv_tup, eqv_lst, eqv_all0, eqv_all1, clean_flat, Option.bind_some, List.length_cons, List.length_nil, List.length_append, List.length_set, List.cons_append, List.nil_append, List.set_cons_zero, List.set_cons_succ, List.take_succ_cons, List.take_zero, List.map_cons, List.map_nil, List.reverse_cons, List.reverse_nil, List.contains_cons, List.contains_nil, Bool.true_or, Bool.or_true, Bool.false_or, Bool.or_false, Bool.true_and, Bool.and_true, Bool.false_and, Bool.and_false, Bool.not_true, Bool.not_false, if_pos, if_neg, List.sum_cons, List.sum_nil, decide_true, decide_false, beq_self_eq_true, Nat.reduceBEq, Int.reduceNeg, Nat.zero_add, Int.zero_add, Int.add_zero, Int.cast_ofNat_Int, Nat.reduceAdd, Nat.reduceSub, Nat.reduceLeDiff, Nat.lt_irrefl, Nat.reduceEqDiff, Int.reduceLT, Int.reduceLE, Int.reduceEq, Int.reduceAdd, Int.reduceSub, Int.reduceMul, Int.reduceToNat, ↓reduceIte, not_false_eq_true, not_true_eq_false, Int.zero_le_ofNat, Nat.min_eq_left, Nat.min_eq_right, u_mod, u_fdW, u_lenS, u_ixS, u_ixSo, hd, hat, hon, hw, hr, u_sl, u_sl1, u_sl2, u_sl3, u_oN, u_oS, u_oS1, u_slS, u_addS]
      rfl
    · refine fin2 (Str.mk #[32] ++ t) ⟨by omega, strOk_app o6 ht⟩ _ ⟨[.lst [.str (t ++ Str.mk #[32]), .str (Str.mk #[32] ++ t), .str (cutS t (some at_) none ++ cutS t none (some at_)), .str (Str.mk #[]), .str (t ++ t)]], ?_⟩
      simp (maxSteps := 10000000) (disch := first | omega | (simp only [List.length_cons, List.length_nil, List.length_append, List.length_map] <;> omega) | (unfold CleanOK; with_unfolding_all rfl) | (with_unfolding_all rfl)) only [u_v0, u_vS, u_c, u_lft, u_op, u_op1, u_op2, u_test, u_tst, u_anil, u_acons, u_ac1, u_ac2, u_tup, u_tu1, u_lst, u_ls1, u_not, u_nt1, u_and, u_and1t, u_and1f, u_andv, u_andv1t, u_andv1f, u_or, u_or1t, u_or1f, u_orv, u_orv1t, u_orv1f, u_notv, u_nv1, u_ife, u_ife1t, u_ife1f, u_ifs, u_ifs1t, u_ifs1f, u_nx, u_ct, u_seq, u_then, u_then2, u_then3, u_drop, u_mask0, u_mask1, u_expr, u_ex1, u_ret, u_rt1, u_set, u_st1, u_call, u_ca1, u_call0, u_B, u_b1, u_chain, u_ch1, u_ch2, u_ch3t, u_ch3f, u_ch4, u_it, u_it1t, u_it1r, u_itR, u_zip, u_zi1tt, u_zi1tr, u_zi1rt, u_zi1rr, u_zi2, u_zi3, u_rng, u_rn1, u_nxtT, u_nxtL, u_nxL, u_nxtR, u_nxtZ, u_zz1, u_zz2, u_zz3, u_nxtE, u_ee1, u_ee2, u_lenT, u_lenL, u_lnL, u_lenR, u_lenZ, u_lenE, u_comp, u_co1, u_co2, u_w0, u_w1, u_compL, u_clA0, u_clA1, u_clB, u_clCt, u_clCf, u_clD, u_clE, u_yes, u_setN, u_set2, u_set3, u_asg, u_as1, u_as2, u_put, u_pu1, u_pu2, u_pu3, u_pu4, u_for, u_fo1, u_forS, u_fA, u_fB0, u_fB1, u_fC, u_con1, u_con2, u_con3, u_con4, u_M, u_me1, u_me2, u_me3, u_M2, u_mm1t, u_rev, u_rv1t, u_rv1r, u_rvL, u_newD, u_ixo, u_ixT, u_ixR, u_ixRl, u_ixRd, u_ixRf, u_gK1, u_kLt, u_kLe, u_kGt, u_kGe, u_kSub, u_kAdd, u_mul, u_mulr, u_addT, u_addL, u_addL1, u_eq, u_ne, u_eq2t, u_eq2f, u_tdR, u_tdL, u_tdLL, u_tdTT, u_tdT, u_tdS0, u_tdS1, u_tdC, u_eqvB, u_eqvN, u_eqvNI, u_eqvIN, u_eqvNT, u_eqvTN, u_eqv01, u_eqv10, u_in, u_notin, u_in2lt, u_in2lf, u_in2tt, u_in2tf, u_any0, u_any1, u_lenTup, u_lenRef, u_lenR1, u_lst?, u_tupT, u_tupR, u_tpo, u_listT, u_listR, u_lso, u_intB, u_min2, u_ints?, u_ints0, u_ints1, u_icn, u_minR, u_min?, u_maxR, u_max?, u_srtR, u_srtT, u_srt?, u_sruR, u_sru?, u_sI0, u_sI1, u_iI0, u_iI1, u_sU0, u_sU1, u_iU0, u_iU1, u_sumR, u_sumT, u_sum?, u_bls?, u_bls0, u_bls1, u_bcn, u_allR, u_anyR, u_all?, u_any?, u_aB0, u_aB1, u_oB0, u_oB1, u_app, u_apL, u_ext, u_exL, u_isL, u_isL1, u_kput, u_puL, u_puN, u_puD, u_pk2, u_hasK0, u_hasK1, u_repK0, u_repK1, u_neg, u_ng1, u_whl, u_wh1t, u_wh1f, u_wh2, u_lock, u_lkA, u_lkB, u_lkC, u_lkD, u_keys, u_ke1, u_ke2, u_kys0, u_kys1, u_dt, u_df, u_ct1, u_ct2, u_g0, u_gS, u_gN, toD_non, toD_bl, toD_int, eqv_int, eqv_tup, eqv_lst, eqv_all0, eqv_all1, clean_flat, Option.bind_some, List.length_cons, List.length_nil, List.length_append, List.length_set, List.cons_append, List.nil_append, List.set_cons_zero, List.set_cons_succ, List.take_succ_cons, List.take_zero, List.map_cons, List.map_nil, List.reverse_cons, List.reverse_nil, List.contains_cons, List.contains_nil, Bool.true_or, Bool.or_true, Bool.false_or, Bool.or_false, Bool.true_and, Bool.and_true, Bool.false_and, Bool.and_false, Bool.not_true, Bool.not_false, if_pos, if_neg, List.sum_cons, List.sum_nil, decide_true, decide_false, beq_self_eq_true, Nat.reduceBEq, Int.reduceNeg, Nat.zero_add, Int.zero_add, Int.add_zero, Int.cast_ofNat_Int, Nat.reduceAdd, Nat.reduceSub, Nat.reduceLeDiff, Nat.lt_irrefl, Nat.reduceEqDiff, Int.reduceLT, Int.reduceLE, Int.reduceEq, Int.reduceAdd, Int.reduceSub, Int.reduceMul, Int.reduceToNat, ↓reduceIte, not_false_eq_true, not_true_eq_false, Int.zero_le_ofNat, Nat.min_eq_left, Nat.min_eq_right, u_mod, u_fdW, u_lenS, u_ixS, u_ixSo, hd, hat, hon, hw, hr, u_sl, u_sl1, u_sl2, u_sl3, u_oN, u_oS, u_oS1, u_slS, u_addS]
      rfl
    · refine fin2 (cutS t (some at_) none ++ cutS t none (some at_)) ⟨by omega, strOk_app o2 o1⟩ _ ⟨[.lst [.str (t ++ Str.mk #[32]), .str (Str.mk #[32] ++ t), .str (cutS t (some at_) none ++ cutS t none (some at_)), .str (Str.mk #[]), .str (t ++ t)]], ?_⟩
      simp (maxSteps := 10000000) (disch := first | omega | (simp only [List.length_cons, List.length_nil, List.length_append, List.length_map] <;> omega) | (unfold CleanOK; with_unfolding_all rfl) | (with_unfolding_all rfl)) only [u_v0, u_vS, u_c, u_lft, u_op, u_op1, u_op2, u_test, u_tst, u_anil, u_acons, u_ac1, u_ac2, u_tup, u_tu1, u_lst, u_ls1, u_not, u_nt1, u_and, u_and1t, u_and1f, u_andv, u_andv1t, u_andv1f, u_or, u_or1t, u_or1f, u_orv, u_orv1t, u_orv1f, u_notv, u_nv1, u_ife, u_ife1t, u_ife1f, u_ifs, u_ifs1t, u_ifs1f, u_nx, u_ct, u_seq, u_then, u_then2, u_then3, u_drop, u_mask0, u_mask1, u_expr, u_ex1, u_ret, u_rt1, u_set, u_st1, u_call, u_ca1, u_call0, u_B, u_b1, u_chain, u_ch1, u_ch2, u_ch3t, u_ch3f, u_ch4, u_it, u_it1t, u_it1r, u_itR, u_zip, u_zi1tt, u_zi1tr, u_zi1rt, u_zi1rr, u_zi2, u_zi3, u_rng, u_rn1, u_nxtT, u_nxtL, u_nxL, u_nxtR, u_nxtZ, u_zz1, u_zz2, u_zz3, u_nxtE, u_ee1, u_ee2, u_lenT, u_lenL, u_lnL, u_lenR, u_lenZ, u_lenE, u_comp, u_co1, u_co2, u_w0, u_w1, u_compL, u_clA0, u_clA1, u_clB, u_clCt, u_clCf, u_clD, u_clE, u_yes, u_setN, u_set2, u_set3, u_asg, u_as1, u_as2, u_put, u_pu1, u_pu2, u_pu3, u_pu4, u_for, u_fo1, u_forS, u_fA, u_fB0, u_fB1, u_fC, u_con1, u_con2, u_con3, u_con4, u_M, u_me1, u_me2, u_me3, u_M2, u_mm1t, u_rev, u_rv1t, u_rv1r, u_rvL, u_newD, u_ixo, u_ixT, u_ixR, u_ixRl, u_ixRd, u_ixRf, u_gK1, u_kLt, u_kLe, u_kGt, u_kGe, u_kSub, u_kAdd, u_mul, u_mulr, u_addT, u_addL, u_addL1, u_eq, u_ne, u_eq2t, u_eq2f, u_tdR, u_tdL, u_tdLL, u_tdTT, u_tdT, u_tdS0, u_tdS1, u_tdC, u_eqvB, u_eqvN, u_eqvNI, u_eqvIN, u_eqvNT, u_eqvTN, u_eqv01, u_eqv10, u_in, u_notin, u_in2lt, u_in2lf, u_in2tt, u_in2tf, u_any0, u_any1, u_lenTup, u_lenRef, u_lenR1, u_lst?, u_tupT, u_tupR, u_tpo, u_listT, u_listR, u_lso, u_intB, u_min2, u_ints?, u_ints0, u_ints1, u_icn, u_minR, u_min?, u_maxR, u_max?, u_srtR, u_srtT, u_srt?, u_sruR, u_sru?, u_sI0, u_sI1, u_iI0, u_iI1, u_sU0, u_sU1, u_iU0, u_iU1, u_sumR, u_sumT, u_sum?, u_bls?, u_bls0, u_bls1, u_bcn, u_allR, u_anyR, u_all?, u_any?, u_aB0, u_aB1, u_oB0, u_oB1, u_app, u_apL, u_ext, u_exL, u_isL, u_isL1, u_kput, u_puL, u_puN, u_puD, u_pk2, u_hasK0, u_hasK1, u_repK0, u_repK1, u_neg, u_ng1, u_whl, u_wh1t, u_wh1f, u_wh2, u_lock, u_lkA, u_lkB, u_lkC, u_lkD, u_keys, u_ke1, u_ke2, u_kys0, u_kys1, u_dt, u_df, u_ct1, u_ct2, u_g0, u_gS, u_gN, toD_non, toD_bl, toD_int, eqv_int, eqv_tup, eqv_lst, eqv_all0, eqv_all1, clean_flat, Option.bind_some, List.length_cons, List.length_nil, List.length_append, List.length_set, List.cons_append, List.nil_append, List.set_cons_zero, List.set_cons_succ, List.take_succ_cons, List.take_zero, List.map_cons, List.map_nil, List.reverse_cons, List.reverse_nil, List.contains_cons, List.contains_nil, Bool.true_or, Bool.or_true, Bool.false_or, Bool.or_false, Bool.true_and, Bool.and_true, Bool.false_and, Bool.and_false, Bool.not_true, Bool.not_false, if_pos, if_neg, List.sum_cons, List.sum_nil, decide_true, decide_false, beq_self_eq_true, Nat.reduceBEq, Int.reduceNeg, Nat.zero_add, Int.zero_add, Int.add_zero, Int.cast_ofNat_Int, Nat.reduceAdd, Nat.reduceSub, Nat.reduceLeDiff, Nat.lt_irrefl, Nat.reduceEqDiff, Int.reduceLT, Int.reduceLE, Int.reduceEq, Int.reduceAdd, Int.reduceSub, Int.reduceMul, Int.reduceToNat, ↓reduceIte, not_false_eq_true, not_true_eq_false, Int.zero_le_ofNat, Nat.min_eq_left, Nat.min_eq_right, u_mod, u_fdW, u_lenS, u_ixS, u_ixSo, hd, hat, hon, hw, hr, u_sl, u_sl1, u_sl2, u_sl3, u_oN, u_oS, u_oS1, u_slS, u_addS]
      rfl
    · refine fin2 (Str.mk #[]) ⟨by show 0 ≤ _; omega, by decide +kernel⟩ _ ⟨[.lst [.str (t ++ Str.mk #[32]), .str (Str.mk #[32] ++ t), .str (cutS t (some at_) none ++ cutS t none (some at_)), .str (Str.mk #[]), .str (t ++ t)]], ?_⟩
      simp (maxSteps := 10000000) (disch := first | omega | (simp only [List.length_cons, List.length_nil, List.length_append, List.length_map] <;> omega) | (unfold CleanOK; with_unfolding_all rfl) | (with_unfolding_all rfl)) only [u_v0, u_vS, u_c, u_lft, u_op, u_op1, u_op2, u_test, u_tst, u_anil, u_acons, u_ac1, u_ac2, u_tup, u_tu1, u_lst, u_ls1, u_not, u_nt1, u_and, u_and1t, u_and1f, u_andv, u_andv1t, u_andv1f, u_or, u_or1t, u_or1f, u_orv, u_orv1t, u_orv1f, u_notv, u_nv1, u_ife, u_ife1t, u_ife1f, u_ifs, u_ifs1t, u_ifs1f, u_nx, u_ct, u_seq, u_then, u_then2, u_then3, u_drop, u_mask0, u_mask1, u_expr, u_ex1, u_ret, u_rt1, u_set, u_st1, u_call, u_ca1, u_call0, u_B, u_b1, u_chain, u_ch1, u_ch2, u_ch3t, u_ch3f, u_ch4, u_it, u_it1t, u_it1r, u_itR, u_zip, u_zi1tt, u_zi1tr, u_zi1rt, u_zi1rr, u_zi2, u_zi3, u_rng, u_rn1, u_nxtT, u_nxtL, u_nxL, u_nxtR, u_nxtZ, u_zz1, u_zz2, u_zz3, u_nxtE, u_ee1, u_ee2, u_lenT, u_lenL, u_lnL, u_lenR, u_lenZ, u_lenE, u_comp, u_co1, u_co2, u_w0, u_w1, u_compL, u_clA0, u_clA1, u_clB, u_clCt, u_clCf, u_clD, u_clE, u_yes, u_setN, u_set2, u_set3, u_asg, u_as1, u_as2, u_put, u_pu1, u_pu2, u_pu3, u_pu4, u_for, u_fo1, u_forS, u_fA, u_fB0, u_fB1, u_fC, u_con1, u_con2, u_con3, u_con4, u_M, u_me1, u_me2, u_me3, u_M2, u_mm1t, u_rev, u_rv1t, u_rv1r, u_rvL, u_newD, u_ixo, u_ixT, u_ixR, u_ixRl, u_ixRd, u_ixRf, u_gK1, u_kLt, u_kLe, u_kGt, u_kGe, u_kSub, u_kAdd, u_mul, u_mulr, u_addT, u_addL, u_addL1, u_eq, u_ne, u_eq2t, u_eq2f, u_tdR, u_tdL, u_tdLL, u_tdTT, u_tdT, u_tdS0, u_tdS1, u_tdC, u_eqvB, u_eqvN, u_eqvNI, u_eqvIN, u_eqvNT, u_eqvTN, u_eqv01, u_eqv10, u_in, u_notin, u_in2lt, u_in2lf, u_in2tt, u_in2tf, u_any0, u_any1, u_lenTup, u_lenRef, u_lenR1, u_lst?, u_tupT, u_tupR, u_tpo, u_listT, u_listR, u_lso, u_intB, u_min2, u_ints?, u_ints0, u_ints1, u_icn, u_minR, u_min?, u_maxR, u_max?, u_srtR, u_srtT, u_srt?, u_sruR, u_sru?, u_sI0, u_sI1, u_iI0, u_iI1, u_sU0, u_sU1, u_iU0, u_iU1, u_sumR, u_sumT, u_sum?, u_bls?, u_bls0, u_bls1, u_bcn, u_allR, u_anyR, u_all?, u_any?, u_aB0, u_aB1, u_oB0, u_oB1, u_app, u_apL, u_ext, u_exL, u_isL, u_isL1, u_kput, u_puL, u_puN, u_puD, u_pk2, u_hasK0, u_hasK1, u_repK0, u_repK1, u_neg, u_ng1, u_whl, u_wh1t, u_wh1f, u_wh2, u_lock, u_lkA, u_lkB, u_lkC, u_lkD, u_keys, u_ke1, u_ke2, u_kys0, u_kys1, u_dt, u_df, u_ct1, u_ct2, u_g0, u_gS, u_gN, toD_non, toD_bl, toD_int, eqv_int, eqv_tup, eqv_lst, eqv_all0, eqv_all1, clean_flat, Option.bind_some, List.length_cons, List.length_nil, List.length_append, List.length_set, List.cons_append, List.nil_append, List.set_cons_zero, List.set_cons_succ, List.take_succ_cons, List.take_zero, List.map_cons, List.map_nil, List.reverse_cons, List.reverse_nil, List.contains_cons, List.contains_nil, Bool.true_or, Bool.or_true, Bool.false_or, Bool.or_false, Bool.true_and, Bool.and_true, Bool.false_and, Bool.and_false, Bool.not_true, Bool.not_false, if_pos, if_neg, List.sum_cons, List.sum_nil, decide_true, decide_false, beq_self_eq_true, Nat.reduceBEq, Int.reduceNeg, Nat.zero_add, Int.zero_add, Int.add_zero, Int.cast_ofNat_Int, Nat.reduceAdd, Nat.reduceSub, Nat.reduceLeDiff, Nat.lt_irrefl, Nat.reduceEqDiff, Int.reduceLT, Int.reduceLE, Int.reduceEq, Int.reduceAdd, Int.reduceSub, Int.reduceMul, Int.reduceToNat, ↓reduceIte, not_false_eq_true, not_true_eq_false, Int.zero_le_ofNat, Nat.min_eq_left, Nat.min_eq_right, u_mod, u_fdW, u_lenS, u_ixS, u_ixSo, hd, hat, hon, hw, hr, u_sl, u_sl1, u_sl2, u_sl3, u_oN, u_oS, u_oS1, u_slS, u_addS]
      rfl
    · refine fin2 (t ++ t) ⟨by omega, strOk_app ht ht⟩ _ ⟨[.lst [.str (t ++ Str.mk #[32]), .str (Str.mk #[32] ++ t), .str (cutS t (some at_) none ++ cutS t none (some at_)), .str (Str.mk #[]), .str (t ++ t)]], ?_⟩
      simp (maxSteps := 10000000) (disch := first | omega | (simp only [List.length_cons, List.length_nil, List.length_append, List.length_map] <;> omega) | (unfold CleanOK; with_unfolding_all rfl) | (with_unfolding_all rfl)) only [u_v0, u_vS, u_c, u_lft, u_op, u_op1, u_op2, u_test, u_tst, u_anil, u_acons, u_ac1, u_ac2, u_tup, u_tu1, u_lst, u_ls1, u_not, u_nt1, u_and, u_and1t, u_and1f, u_andv, u_andv1t, u_andv1f, u_or, u_or1t, u_or1f, u_orv, u_orv1t, u_orv1f, u_notv, u_nv1, u_ife, u_ife1t, u_ife1f, u_ifs, u_ifs1t, u_ifs1f, u_nx, u_ct, u_seq, u_then, u_then2, u_then3, u_drop, u_mask0, u_mask1, u_expr, u_ex1, u_ret, u_rt1, u_set, u_st1, u_call, u_ca1, u_call0, u_B, u_b1, u_chain, u_ch1, u_ch2, u_ch3t, u_ch3f, u_ch4, u_it, u_it1t, u_it1r, u_itR, u_zip, u_zi1tt, u_zi1tr, u_zi1rt, u_zi1rr, u_zi2, u_zi3, u_rng, u_rn1, u_nxtT, u_nxtL, u_nxL, u_nxtR, u_nxtZ, u_zz1, u_zz2, u_zz3, u_nxtE, u_ee1, u_ee2, u_lenT, u_lenL, u_lnL, u_lenR, u_lenZ, u_lenE, u_comp, u_co1, u_co2, u_w0, u_w1, u_compL, u_clA0, u_clA1, u_clB, u_clCt, u_clCf, u_clD, u_clE, u_yes, u_setN, u_set2, u_set3, u_asg, u_as1, u_as2, u_put, u_pu1, u_pu2, u_pu3, u_pu4, u_for, u_fo1, u_forS, u_fA, u_fB0, u_fB1, u_fC, u_con1, u_con2, u_con3, u_con4, u_M, u_me1, u_me2, u_me3, u_M2, u_mm1t, u_rev, u_rv1t, u_rv1r, u_rvL, u_newD, u_ixo, u_ixT, u_ixR, u_ixRl, u_ixRd, u_ixRf, u_gK1, u_kLt, u_kLe, u_kGt, u_kGe, u_kSub, u_kAdd, u_mul, u_mulr, u_addT, u_addL, u_addL1, u_eq, u_ne, u_eq2t, u_eq2f, u_tdR, u_tdL, u_tdLL, u_tdTT, u_tdT, u_tdS0, u_tdS1, u_tdC, u_eqvB, u_eqvN, u_eqvNI, u_eqvIN, u_eqvNT, u_eqvTN, u_eqv01, u_eqv10, u_in, u_notin, u_in2lt, u_in2lf, u_in2tt, u_in2tf, u_any0, u_any1, u_lenTup, u_lenRef, u_lenR1, u_lst?, u_tupT, u_tupR, u_tpo, u_listT, u_listR, u_lso, u_intB, u_min2, u_ints?, u_ints0, u_ints1, u_icn, u_minR, u_min?, u_maxR, u_max?, u_srtR, u_srtT, u_srt?, u_sruR, u_sru?, u_sI0, u_sI1, u_iI0, u_iI1, u_sU0, u_sU1, u_iU0, u_iU1, u_sumR, u_sumT, u_sum?, u_bls?, u_bls0, u_bls1, u_bcn, u_allR, u_anyR, u_all?, u_any?, u_aB0, u_aB1, u_oB0, u_oB1, u_app, u_apL, u_ext, u_exL, u_isL, u_isL1, u_kput, u_puL, u_puN, u_puD, u_pk2, u_hasK0, u_hasK1, u_repK0, u_repK1, u_neg, u_ng1, u_whl, u_wh1t, u_wh1f, u_wh2, u_lock, u_lkA, u_lkB, u_lkC, u_lkD, u_keys, u_ke1, u_ke2, u_kys0, u_kys1, u_dt, u_df, u_ct1, u_ct2, u_g0, u_gS, u_gN, toD_non, toD_bl, toD_int, eqv_int, eqv_tup, eqv_lst, eqv_all0, eqv_all1, clean_flat, Option.bind_some, List.length_cons, List.length_nil, List.length_append, List.length_set, List.cons_append, List.nil_append, List.set_cons_zero, List.set_cons_succ, List.take_succ_cons, List.take_zero, List.map_cons, List.map_nil, List.reverse_cons, List.reverse_nil, List.contains_cons, List.contains_nil, Bool.true_or, Bool.or_true, Bool.false_or, Bool.or_false, Bool.true_and, Bool.and_true, Bool.false_and, Bool.and_false, Bool.not_true, Bool.not_false, if_pos, if_neg, List.sum_cons, List.sum_nil, decide_true, decide_false, beq_self_eq_true, Nat.reduceBEq, Int.reduceNeg, Nat.zero_add, Int.zero_add, Int.add_zero, Int.cast_ofNat_Int, Nat.reduceAdd, Nat.reduceSub, Nat.reduceLeDiff, Nat.lt_irrefl, Nat.reduceEqDiff, Int.reduceLT, Int.reduceLE, Int.reduceEq, Int.reduceAdd, Int.reduceSub, Int.reduceMul, Int.reduceToNat, ↓reduceIte, not_false_eq_true, not_true_eq_false, Int.zero_le_ofNat, Nat.min_eq_left, Nat.min_eq_right, u_mod, u_fdW, u_lenS, u_ixS, u_ixSo, hd, hat, hon, hw, hr, u_sl, u_sl1, u_sl2, u_sl3, u_oN, u_oS, u_oS1, u_slS, u_addS]
      rfl
end Pg
set_option Elab.async false
set_option linter.all false
set_option maxRecDepth 100000
set_option maxHeartbeats 4000000
set_option autoImplicit false
namespace Pg
open PySem PySem.Spec PyProof.Rows L2 Wr
def nmL : Nat → List Nat
  | 0 => [97, 98, 99]
  | 1 => [97, 99, 98]
  | 2 => [98, 97, 99]
  | 3 => [98, 99, 97]
  | 4 => [99, 97, 98]
  | _ => [99, 98, 97]
theorem nm_len (n : Nat) : (nmL n).length = 3 := by unfold nmL; split <;> rfl
def Dd.ln : Dd → List Nat
  | .add n => 43 :: 32 :: nmL n
  | .drop n => 45 :: 32 :: nmL n
  | .chg n o => nmL n ++ 32 :: nmL o
def Dd.ok6 : Dd → Prop
  | .add n => n < 6
  | .drop n => n < 6
  | .chg n o => n < 6 ∧ o < 6
theorem ln_len (d : Dd) : d.ln.length ≤ 7 := by
  cases d with
  | add n => simp [Dd.ln, nm_len]
  | drop n => simp [Dd.ln, nm_len]
  | chg n o => simp [Dd.ln, nm_len]
theorem nm_no (n : Nat) : (10 ∉ nmL n ∧ 32 ∉ nmL n) ∧ ∀ c ∈ nmL n, c < 256 := by
  unfold nmL
  split <;> decide
theorem ln_no (d : Dd) : 10 ∉ d.ln := by
  cases d with
  | add n => have := (nm_no n).1.1; simp [Dd.ln, this]
  | drop n => have := (nm_no n).1.1; simp [Dd.ln, this]
  | chg n o =>
    have h1 := (nm_no n).1.1
    have h2 := (nm_no o).1.1
    simp [Dd.ln, h1, h2]
def lnL (ps : Zl) : List Nat := ps.flatMap fun p => p.1.ln ++ [10]
theorem lnL_len : ∀ ps : Zl, (lnL ps).length ≤ 8 * ps.length
  | [] => by simp [lnL]
  | p :: ps => by
    have h1 := lnL_len ps
    have h2 := ln_len p.1
    have : lnL (p :: ps) = (p.1.ln ++ [10]) ++ lnL ps := by simp [lnL]
    rw [this]
    simp only [List.length_append, List.length_cons, List.length_nil]
    omega
def ptx (ps : Zl) : Str := tx (lnL ps)
theorem st_add : ∀ n < 6, step_text [.tup [sAdd, .int (n : Nat)]] [] = .ok (.str (tx (Dd.ln (.add n)))) [] := by decide +kernel
theorem st_drop : ∀ n < 6, step_text [.tup [sDrop, .int (n : Nat)]] [] = .ok (.str (tx (Dd.ln (.drop n)))) [] := by decide +kernel
theorem st_chg : ∀ n < 6, ∀ o < 6, step_text [.tup [sChg, .int (n : Nat), .int (o : Nat)]] [] = .ok (.str (tx (Dd.ln (.chg n o)))) [] := by decide +kernel
theorem st_ok (d : Dd) (hd : d.ok6) (h : Hs) : callD step_text [d.v] h = .ok (.str (tx d.ln)) h := by
  refine flat_call (by simp [refsVs, d.flat]) rfl ?_ h
  cases d with
  | add n => exact st_add n hd
  | drop n => exact st_drop n hd
  | chg n o => exact st_chg n hd.1 o hd.2
theorem strsOf_map : ∀ l : List Str, strsOf (l.map Va.str) = some l
  | [] => rfl
  | x :: l => by rw [List.map_cons, strsOf, strsOf_map l]; rfl
theorem compact6G {v now : Va} {P L : List Va} {o1 o2 : Ob} (fv : refsV v = []) (fn : refsV now = []) (fP : refsVs P = []) (fL : refsVs L = []) : compact 3 (.ok v [PI now 1 2, .lst P, .lst L, o1, o2]) = .ok v (H3 now P L) := by
  have e : lastM 3 v [PI now 1 2, .lst P, .lst L, o1, o2] = [0, 1, 2] := by
    unfold lastM
    have e1 : refsV v ++ List.flatMap refsO (List.take 3 [PI now 1 2, Ob.lst P, .lst L, o1, o2]) = [1, 2] := by
      rw [fv]
      simp only [List.take_succ_cons, List.take_zero, List.flatMap_cons, List.flatMap_nil, refs_PI fn, show refsO (.lst P) = [] from fP, show refsO (.lst L) = [] from fL]
      rfl
    rw [e1]
    have e2 : reach 300 [PI now 1 2, .lst P, .lst L, o1, o2] [1, 2] [] = [1, 2] := reach_flat _ [1, 2] [] 300 (by decide) (by simp) (by decide) (fun r hr => by
      simp only [List.mem_cons, List.not_mem_nil, or_false] at hr
      rcases hr with rfl | rfl
      · exact ⟨_, rfl, fP⟩
      · exact ⟨_, rfl, fL⟩)
    rw [e2]
    rfl
  unfold compact
  simp only [List.length_cons, List.length_nil, e]
  have i0 : idx [0, 1, 2] 1 = some 1 := rfl
  have i3 : idx [0, 1, 2] 2 = some 2 := rfl
  have so : selO [0, 1, 2] [PI now 1 2, .lst P, .lst L, o1, o2] [0, 1, 2] = some (H3 now P L) := by
    simp [selO, ren_PI fn i0 i3, renO_lst fP, renO_lst fL]
  rw [ren_flat _ fv, so]
  rfl
theorem sumLen_le : ∀ l : List (List Nat), (∀ x ∈ l, x.length ≤ 8) → sumLen (l.map tx) ≤ 8 * l.length
  | [], _ => by simp [sumLen]
  | x :: l, h => by
    have h1 := h x (by simp)
    have h2 := sumLen_le l fun y hy => h y (by simp [hy])
    rw [List.map_cons, sumLen]
    have : (tx x).length = x.length := by simp [tx, Str.length]
    simp only [List.length_cons]
    omega
abbrev ptEl : De := dOp kAdd (dCall step_text 1 (aCons (dVar 1) aNil)) (dC (.str (Str.mk #[10])))
theorem pt_el (d : Dd) (hd : d.ok6) (s0 : Option Va) (H : Hs) : ptEl [s0, some d.v] H = .ok (.str (tx (d.ln ++ [10]))) H := by
  have e1 : dCall step_text 1 (aCons (dVar 1) aNil) [s0, some d.v] H = .ok (.str (tx d.ln)) H := by
    show callD step_text [d.v] H = _
    exact st_ok d hd H
  refine op_of e1 rfl ?_
  have hl := ln_len d
  have hn : okN ((tx d.ln).length + (Str.mk #[10]).length) = true := by
    refine decide_eq_true ?_
    have : (tx d.ln).length = d.ln.length := by simp [tx, Str.length]
    have h2 : (Str.mk #[10]).length = 1 := rfl
    omega
  unfold kAdd
  simp only [hn, if_true]
  have : (tx d.ln ++ Str.mk #[10] : Str) = tx (d.ln ++ [10]) := by
    show Str.mk (d.ln.toArray ++ #[10]) = Str.mk (d.ln ++ [10]).toArray
    rw [← List.toArray_appendList] <;> simp
  rw [this]
theorem poll_text_loc (b : B6) (ps ls : Zl) (hp : ps.length ≤ 150) (hl : ls.length ≤ 150) (ok : ∀ p ∈ ps, p.1.ok6) : poll_text [.ref 0] (H3 b.v (PV (vv ps)) (PV (vv ls))) = .ok (.str (ptx ps)) (H3 b.v (PV (vv ps)) (PV (vv ls))) := by
  have fb := refs_book b
  have fP := flatP1 ps
  have fL := flatP1 ls
  have A : At (H3 b.v (PV (vv ps)) (PV (vv ls))) 0 1 2 b.v (PV (vv ps)) (PV (vv ls)) := at3 fb fP fL
  have es : callD Poll_steps [.ref 0] (H3 b.v (PV (vv ps)) (PV (vv ls))) = .ok (.ref 3) (H3 b.v (PV (vv ps)) (PV (vv ls)) ++ [.lst (ps.map (·.1.v))]) := steps_pl A (by omega) (by omega)
  have e0 : dMeth0 "steps" Poll_steps (dVar 0) [some (.ref 0), none] (H3 b.v (PV (vv ps)) (PV (vv ls))) = .ok (.ref 3) (H3 b.v (PV (vv ps)) (PV (vv ls)) ++ [.lst (ps.map (·.1.v))]) := (meth0_is (r := 0) rfl (A.ins _ (by decide +kernel))).trans es
  generalize PV (vv ps) = P at *
  generalize PV (vv ls) = L at *
  have c := compI (it := .lst 3) (n := ps.length) (z := fun i => (ps.getD i (.add 0, b)).1.v) (t := .nm 1) (test := dYes) (el := ptEl) (s := [some (.ref 0), none]) (h := H3 b.v P L ++ [.lst (ps.map (·.1.v))]) (p := fun _ => true) (e := fun i => .str (tx ((ps.getD i (.add 0, b)).1.ln ++ [10])))
    (fun i hi => by
      show some ((ps.map (·.1.v))[i]?) = _
      rw [List.getElem?_map, List.getElem?_eq_getElem hi]
      simp [List.getD_eq_getElem?_getD, List.getElem?_eq_getElem hi])
    (by
      show some ((ps.map (·.1.v))[ps.length]?) = _
      rw [List.getElem?_eq_none (by simp)])
    (fun i hi => ⟨[some (.ref 0), some (ps.getD i (.add 0, b)).1.v], rfl, rfl, fun _ => by
      refine pt_el _ (ok (ps.getD i (.add 0, b)) ?_) _ _
      simp [List.getD_eq_getElem?_getD, List.getElem?_eq_getElem hi]⟩)
    (ps.length + 1) 0 (by omega) (by omega)
  have e2 : ((List.range' 0 (ps.length - 0)).filter fun _ => true).map (fun i => Va.str (tx ((ps.getD i (.add 0, b)).1.ln ++ [10]))) = (ps.map fun p => p.1.ln ++ [10]).map (fun l => Va.str (tx l)) := by
    rw [List.filter_eq_self.mpr (fun _ _ => rfl), Nat.sub_zero, ← List.range_eq_range', List.map_map]
    apply List.ext_getElem?
    intro i
    rw [List.getElem?_map, List.getElem?_map]
    by_cases hi : i < ps.length
    · rw [List.getElem?_range hi, List.getElem?_eq_getElem hi]
      simp [List.getD_eq_getElem?_getD, List.getElem?_eq_getElem hi]
    · rw [List.getElem?_eq_none (by simpa using hi), List.getElem?_eq_none (by simpa using hi)]
      rfl
  rw [e2] at c
  have ec : dComp [1] (dIt (dMeth0 "steps" Poll_steps (dVar 0))) (.nm 1) dYes ptEl [some (.ref 0), none] (H3 b.v P L) = .ok (.ref 4) [PI b.v 1 2, .lst P, .lst L, .lst (ps.map (·.1.v)), .lst ((ps.map fun p => p.1.ln ++ [10]).map (fun l => Va.str (tx l)))] := by
    rw [u_comp, u_it, e0]
    show co2 (compL (.lst 3) (.nm 1) dYes ptEl [some (.ref 0), none] (itLen (.lst 3) (H3 b.v P L ++ [.lst (ps.map (·.1.v))]) + 1) 0 _) = _
    rw [show itLen (.lst 3) (H3 b.v P L ++ [.lst (ps.map (·.1.v))]) = ps.length from by show (ps.map (·.1.v)).length = _; simp, c, u_co2 _ _ (by simp; omega)]
    rfl
  have js : (ps.map fun p => p.1.ln ++ [10]).map (fun l => Va.str (tx l)) = ((ps.map fun p => p.1.ln ++ [10]).map tx).map Va.str := by simp only [List.map_map]; rfl
  have jl : sumLen ((ps.map fun p => p.1.ln ++ [10]).map tx) ≤ 8 * ps.length := by
    have := sumLen_le (ps.map fun p => p.1.ln ++ [10]) fun x hx => by
      obtain ⟨p, _, rfl⟩ := List.mem_map.mp hx
      have := ln_len p.1
      simp only [List.length_append, List.length_cons, List.length_nil]
      omega
    simpa using this
  have jn : okN (sumLen ((ps.map fun p => p.1.ln ++ [10]).map tx) + ((ps.map fun p => p.1.ln ++ [10]).map tx).length * (Str.mk #[]).length) = true := by
    refine decide_eq_true ?_
    rw [show (Str.mk #[]).length = 0 from rfl, Nat.mul_zero]
    omega
  have ej : kJoin (.str (Str.mk #[])) [.ref 4] [PI b.v 1 2, .lst P, .lst L, .lst (ps.map (·.1.v)), .lst ((ps.map fun p => p.1.ln ++ [10]).map (fun l => Va.str (tx l)))] = some (.str (ptx ps), [PI b.v 1 2, .lst P, .lst L, .lst (ps.map (·.1.v)), .lst ((ps.map fun p => p.1.ln ++ [10]).map (fun l => Va.str (tx l)))]) := by
    unfold kJoin
    simp only [List.getElem?_cons_succ, List.getElem?_cons_zero, js, strsOf_map, jn, if_true]
    have := join_0 (ps.map fun p => p.1.ln ++ [10])
    rw [show (Str.mk #[] : Str) = tx [] from rfl, this]
    rfl
  have ef : (dRet (dM "str" kJoin (dC (.str (Str.mk #[]))) (aCons (dComp [1] (dIt (dMeth0 "steps" Poll_steps (dVar 0))) (.nm 1) dYes ptEl) aNil))) [some (.ref 0), none] (H3 b.v P L) = .rt (.str (ptx ps)) [PI b.v 1 2, .lst P, .lst L, .lst (ps.map (·.1.v)), .lst ((ps.map fun p => p.1.ln ++ [10]).map (fun l => Va.str (tx l)))] := by
    have ea : (aCons (dComp [1] (dIt (dMeth0 "steps" Poll_steps (dVar 0))) (.nm 1) dYes ptEl) aNil) [some (.ref 0), none] (H3 b.v P L) = .ok [.ref 4] [PI b.v 1 2, .lst P, .lst L, .lst (ps.map (·.1.v)), .lst ((ps.map fun p => p.1.ln ++ [10]).map (fun l => Va.str (tx l)))] := by
      rw [u_acons, ec]; rfl
    have em : (dM "str" kJoin (dC (.str (Str.mk #[]))) (aCons (dComp [1] (dIt (dMeth0 "steps" Poll_steps (dVar 0))) (.nm 1) dYes ptEl) aNil)) [some (.ref 0), none] (H3 b.v P L) = .ok (.str (ptx ps)) [PI b.v 1 2, .lst P, .lst L, .lst (ps.map (·.1.v)), .lst ((ps.map fun p => p.1.ln ++ [10]).map (fun l => Va.str (tx l)))] := by
      unfold dM
      show (((aCons (dComp [1] (dIt (dMeth0 "steps" Poll_steps (dVar 0))) (.nm 1) dYes ptEl) aNil) [some (.ref 0), none] (H3 b.v P L)).bind fun xs h2 => liftO (kJoin (.str (Str.mk #[])) xs h2)) = _
      rw [ea]
      show liftO (kJoin _ _ _) = _
      rw [ej]
      rfl
    rw [u_ret, em]
    rfl
  show compact 3 (toRs ((dRet (dM "str" kJoin (dC (.str (Str.mk #[]))) (aCons (dComp [1] (dIt (dMeth0 "steps" Poll_steps (dVar 0))) (.nm 1) dYes ptEl) aNil))) [some (.ref 0), none] (H3 b.v P L))) = _
  rw [ef]
  exact compact6G rfl fb fP fL
theorem poll_text_pl {h : Hs} {r p q : Nat} {ps ls : Zl} {b : B6} (A : Pl h r p q ps b ls) (hp : ps.length ≤ 150) (hl : ls.length ≤ 150) (ok : ∀ p ∈ ps, p.1.ok6) : callD poll_text [.ref r] h = .ok (.str (ptx ps)) h :=
  A.val (post := []) rfl rfl (poll_text_loc b ps ls hp hl ok)
end Pg
set_option Elab.async false
set_option linter.all false
set_option maxRecDepth 100000
set_option maxHeartbeats 4000000
set_option autoImplicit false
namespace Pg
open PySem PySem.Spec PyProof.Rows L2 Wr
def zb0 : B6 := ⟨0, 0, 0, 0, 0, 0⟩
def bkAt (ps : Zl) (b : B6) (j : Nat) : B6 := match ps[j]? with
  | some x => x.2
  | none => b
def Dd.can (b : B6) (d : Dd) : Prop := d.ok6 ∧ ¬ d.no b ∧ b.ok1
structure Run (ps : Zl) (b : B6) : Prop where
  z : bkAt ps b 0 = zb0
  st : ∀ (j : Nat) (x : Dd × B6), ps[j]? = some x → x.1.can x.2 ∧ bkAt ps b (j + 1) = x.1.to x.2
theorem Run.nil : Run [] zb0 := ⟨rfl, fun j x h => nomatch h⟩
theorem bk_snoc (ps : Zl) (d : Dd) (b c : B6) (j : Nat) (hj : j ≤ ps.length) : bkAt (ps ++ [(d, b)]) c j = bkAt ps b j := by
  unfold bkAt
  by_cases h : j < ps.length
  · rw [List.getElem?_append_left h]
    have : ps[j]? = some ps[j] := List.getElem?_eq_getElem h
    rw [this]
  · have e : j = ps.length := by omega
    subst e
    rw [List.getElem?_append_right (Nat.le_refl _), Nat.sub_self, List.getElem?_eq_none (Nat.le_refl _)]
    rfl
theorem Run.snoc {ps : Zl} {b : B6} (R : Run ps b) (d : Dd) (hd : d.can b) : Run (ps ++ [(d, b)]) (d.to b) := by
  refine ⟨by rw [bk_snoc _ _ _ _ _ (Nat.zero_le _)]; exact R.z, fun j x h => ?_⟩
  by_cases hj : j < ps.length
  · rw [List.getElem?_append_left hj] at h
    rw [bk_snoc _ _ _ _ _ hj]
    exact R.st j x h
  · have e : j = ps.length := by
      have := (List.getElem?_eq_some_iff.mp h).1
      simp at this
      omega
    subst e
    rw [List.getElem?_append_right (Nat.le_refl _), Nat.sub_self] at h
    cases h
    refine ⟨hd, ?_⟩
    unfold bkAt
    rw [List.getElem?_eq_none (by simp)]
theorem Run.init {ps : Zl} {d : Dd} {b c : B6} (R : Run (ps ++ [(d, b)]) c) : Run ps b ∧ c = d.to b ∧ d.can b := by
  have hl : (ps ++ [(d, b)])[ps.length]? = some (d, b) := by
    rw [List.getElem?_append_right (Nat.le_refl _), Nat.sub_self]; rfl
  obtain ⟨h1, h2⟩ := R.st ps.length (d, b) hl
  refine ⟨⟨by rw [← bk_snoc ps d b c 0 (Nat.zero_le _)]; exact R.z, fun j x h => ?_⟩, ?_, h1⟩
  · have hj := (List.getElem?_eq_some_iff.mp h).1
    have := R.st j x (by rw [List.getElem?_append_left hj]; exact h)
    rw [bk_snoc _ _ _ _ _ hj] at this
    exact this
  · unfold bkAt at h2
    rw [List.getElem?_eq_none (by simp)] at h2
    exact h2
theorem Run.ok6 {ps : Zl} {b : B6} (R : Run ps b) : ∀ p ∈ ps, p.1.ok6 := fun p hp => by
  obtain ⟨j, hj, e⟩ := List.mem_iff_getElem.mp hp
  exact (R.st j p (by rw [List.getElem?_eq_getElem hj, e])).1.1
theorem Run.len {ps : Zl} {b : B6} (R : Run ps b) : bkAt ps b ps.length = b := by
  unfold bkAt
  rw [List.getElem?_eq_none (Nat.le_refl _)]
def nums6 : Ob := .dK [(.inr (tx (nmL 0)), .int 0), (.inr (tx (nmL 1)), .int 1), (.inr (tx (nmL 2)), .int 2), (.inr (tx (nmL 3)), .int 3), (.inr (tx (nmL 4)), .int 4), (.inr (tx (nmL 5)), .int 5)]
def Dd.w0 : Dd → Str
  | .add _ => tx [43]
  | .drop _ => tx [45]
  | .chg n _ => tx (nmL n)
def Dd.w1 : Dd → Str
  | .add n => tx (nmL n)
  | .drop n => tx (nmL n)
  | .chg _ o => tx (nmL o)
def wds (d : Dd) : List Va := [.str d.w0, .str d.w1]
abbrev H5 (now : Va) (P L : List Va) (d : Dd) : Hs := [PI now 1 2, .lst P, .lst L, .lst (wds d), nums6]
abbrev H6' (now : Va) (P L : List Va) (d : Dd) : Hs := [PI now 1 5, .lst P, .lst L, .lst (wds d), nums6, .lst []]
theorem compactH6 {now : Va} {P L : List Va} {d : Dd} (fn : refsV now = []) (fP : refsVs P = []) (fL : refsVs L = []) : compact 5 (.ok .non (H6' now P L d)) = .ok .non (H6' now P L d) := by
  have fw : refsVs (wds d) = [] := rfl
  have fu : refsO nums6 = [] := rfl
  have e : lastM 5 .non (H6' now P L d) = [0, 1, 2, 3, 4, 5] := by
    unfold lastM
    have e1 : refsV .non ++ List.flatMap refsO (List.take 5 (H6' now P L d)) = [1, 5] := by
      simp only [H6', List.take_succ_cons, List.take_zero, List.flatMap_cons, List.flatMap_nil, refs_PI fn, show refsO (.lst P) = [] from fP, show refsO (.lst L) = [] from fL, show refsO (.lst (wds d)) = [] from fw, fu]
      rfl
    rw [e1]
    have e2 : reach 300 (H6' now P L d) [1, 5] [] = [1, 5] := reach_flat _ [1, 5] [] 300 (by decide) (by simp) (by decide) (fun r hr => by
      simp only [List.mem_cons, List.not_mem_nil, or_false] at hr
      rcases hr with rfl | rfl
      · exact ⟨_, rfl, fP⟩
      · exact ⟨_, rfl, rfl⟩)
    rw [e2]
    rfl
  unfold compact
  simp only [List.length_cons, List.length_nil, e]
  have i1 : idx [0, 1, 2, 3, 4, 5] 1 = some 1 := rfl
  have i5 : idx [0, 1, 2, 3, 4, 5] 5 = some 5 := rfl
  have so : selO [0, 1, 2, 3, 4, 5] (H6' now P L d) [0, 1, 2, 3, 4, 5] = some (H6' now P L d) := by
    have n1 : renO (idx [0, 1, 2, 3, 4, 5]) nums6 = some nums6 := renO_low _ (nil_low fu)
    have n2 : renO (idx [0, 1, 2, 3, 4, 5]) (.lst (wds d)) = some (.lst (wds d)) := renO_lst fw
    simp [selO, ren_PI fn i1 i5, renO_lst fP, renO_lst fL, n1, n2, renO_lst (show refsVs [] = [] from rfl)]
  rw [so]
  rfl
section
variable {now : Va} {P L : List Va} (fn : refsV now = []) (fP : refsVs P = []) (fL : refsVs L = [])
include fn fP fL
theorem at5 (d : Dd) : At (H5 now P L d) 0 1 2 now P L := ⟨by decide, by decide, by decide, rfl, rfl, rfl, fn, fP, fL⟩
end
abbrev dl0 : Dt := dOr (dTest (dOp kNe (dB kLen (aCons (dVar 1) aNil)) (dC (.int 2)))) (dTest (dOp kNotInDk (dOp kIxU (dVar 1) (dC (.int 1))) (dVar 2)))
abbrev dl1 : Dt := dTest (dOp kEq (dOp kIxU (dVar 1) (dC (.int 0))) (dC (.str (Str.mk #[43]))))
abbrev dl2 : Dt := dTest (dOp kEq (dOp kIxU (dVar 1) (dC (.int 0))) (dC (.str (Str.mk #[45]))))
abbrev dl3 : Dt := dTest (dOp kInDk (dOp kIxU (dVar 1) (dC (.int 0))) (dVar 2))
abbrev sl : Sg := [some (.ref 0), some (.ref 3), some (.ref 4)]
abbrev aN (i : Int) : De := dOp kIxU (dVar 2) (dOp kIxU (dVar 1) (dC (.int i)))
theorem dl_add (now : Va) (P L : List Va) (n : Nat) (hn : n < 6) : dl0 sl (H5 now P L (.add n)) = .ok false (H5 now P L (.add n)) ∧ dl1 sl (H5 now P L (.add n)) = .ok true (H5 now P L (.add n)) ∧ aN 1 sl (H5 now P L (.add n)) = .ok (.int n) (H5 now P L (.add n)) := by
  rcases lt6 hn with rfl | rfl | rfl | rfl | rfl | rfl <;> exact ⟨by kernel_rfl, by kernel_rfl, by kernel_rfl⟩
theorem dl_drop (now : Va) (P L : List Va) (n : Nat) (hn : n < 6) : dl0 sl (H5 now P L (.drop n)) = .ok false (H5 now P L (.drop n)) ∧ dl1 sl (H5 now P L (.drop n)) = .ok false (H5 now P L (.drop n)) ∧ dl2 sl (H5 now P L (.drop n)) = .ok true (H5 now P L (.drop n)) ∧ aN 1 sl (H5 now P L (.drop n)) = .ok (.int n) (H5 now P L (.drop n)) := by
  rcases lt6 hn with rfl | rfl | rfl | rfl | rfl | rfl <;> exact ⟨by kernel_rfl, by kernel_rfl, by kernel_rfl, by kernel_rfl⟩
theorem dl_chg (now : Va) (P L : List Va) (n o : Nat) (hn : n < 6) (ho : o < 6) : dl0 sl (H5 now P L (.chg n o)) = .ok false (H5 now P L (.chg n o)) ∧ dl1 sl (H5 now P L (.chg n o)) = .ok false (H5 now P L (.chg n o)) ∧ dl2 sl (H5 now P L (.chg n o)) = .ok false (H5 now P L (.chg n o)) ∧ dl3 sl (H5 now P L (.chg n o)) = .ok true (H5 now P L (.chg n o)) ∧ aN 0 sl (H5 now P L (.chg n o)) = .ok (.int n) (H5 now P L (.chg n o)) ∧ aN 1 sl (H5 now P L (.chg n o)) = .ok (.int o) (H5 now P L (.chg n o)) := by
  rcases lt6 hn with rfl | rfl | rfl | rfl | rfl | rfl <;> rcases lt6 ho with rfl | rfl | rfl | rfl | rfl | rfl <;> exact ⟨by kernel_rfl, by kernel_rfl, by kernel_rfl, by kernel_rfl, by kernel_rfl, by kernel_rfl⟩
theorem get_ok1 {b : B6} (hb : b.ok1) (n : Nat) : 0 ≤ b.get n ∧ b.get n ≤ 98 := by
  unfold B6.ok1 at hb
  unfold B6.get
  split <;> omega
theorem do_line_loc (b : B6) {P L : List Va} (fP : refsVs P = []) (fL : refsVs L = []) (hP : P.length ≤ 1000) (d : Dd) (hd : d.can b) :
    do_line [.ref 0, .ref 3, .ref 4] (H5 b.v P L d) = .ok .non (H6' (d.to b).v (P ++ [.tup [d.v, b.v]]) L d) := by
  obtain ⟨h6, hno, hb⟩ := hd
  have fb := refs_book b
  have A := at5 fb fP fL d
  have fP' : refsVs (P ++ [.tup [d.v, b.v]]) = [] := by simp [refs_app, fP, refsVs, refsV, d.flat, fb]
  refine Eq.trans ?_ (compactH6 (refs_book (d.to b)) fP' fL)
  show compact 5 (toRs (dSeq (dIfS dl0 (dRaise 6) dNx) (dIfS dl1 (dExpr (dMeth "add" Poll_add 2 (dVar 0) (aCons (aN 1) aNil))) (dIfS dl2 (dExpr (dMeth "drop" Poll_drop 2 (dVar 0) (aCons (aN 1) aNil))) (dIfS dl3 (dExpr (dMeth "change" Poll_change 3 (dVar 0) (aCons (aN 0) (aCons (aN 1) aNil)))) (dRaise 6)))) sl (H5 b.v P L d))) = _
  have key : (dSeq (dIfS dl0 (dRaise 6) dNx) (dIfS dl1 (dExpr (dMeth "add" Poll_add 2 (dVar 0) (aCons (aN 1) aNil))) (dIfS dl2 (dExpr (dMeth "drop" Poll_drop 2 (dVar 0) (aCons (aN 1) aNil))) (dIfS dl3 (dExpr (dMeth "change" Poll_change 3 (dVar 0) (aCons (aN 0) (aCons (aN 1) aNil)))) (dRaise 6)))) sl (H5 b.v P L d)) = .nx sl (H6' (d.to b).v (P ++ [.tup [d.v, b.v]]) L d) := by
    cases d with
    | add n =>
      have hn : n < 6 := h6
      obtain ⟨e0, e1, e2⟩ := dl_add b.v P L n hn
      refine seq_nx ((if_f e0).trans rfl) ((if_t e1).trans ?_)
      have fa : (aCons (aN 1) aNil) sl (H5 b.v P L (.add n)) = .ok [.int n] (H5 b.v P L (.add n)) := by rw [u_acons, e2]; rfl
      have em : dMeth "add" Poll_add 2 (dVar 0) (aCons (aN 1) aNil) sl (H5 b.v P L (.add n)) = .ok (.int (b.get n + 1)) (H6' (b.inc n).v (P ++ [.tup [.tup [sAdd, .int n], b.v]]) L (.add n)) :=
        (meth_at (np := 2) (r := 0) (vs := [.int n]) rfl (A.ins _ (by decide +kernel)) fa rfl).trans (A.go (post := [.int n]) (by simp [refsVs, refsV]) rfl (refs_book _) fP' (add_loc fP fL hP b n hn (by have := get_ok1 hb n; omega)))
      rw [u_expr, em]
      rfl
    | drop n =>
      have hn : n < 6 := h6
      obtain ⟨e0, e1, e2, e3⟩ := dl_drop b.v P L n hn
      refine seq_nx ((if_f e0).trans rfl) ((if_f e1).trans ((if_t e2).trans ?_))
      have fa : (aCons (aN 1) aNil) sl (H5 b.v P L (.drop n)) = .ok [.int n] (H5 b.v P L (.drop n)) := by rw [u_acons, e3]; rfl
      have h0 : 0 < b.get n := by
        have h1 := get_ok1 hb n
        have h2 : ¬ (n = 6 ∨ b.get n = 0) := hno
        omega
      have em : dMeth "drop" Poll_drop 2 (dVar 0) (aCons (aN 1) aNil) sl (H5 b.v P L (.drop n)) = .ok (.int (b.get n - 1)) (H6' (b.dec n).v (P ++ [.tup [.tup [sDrop, .int n], b.v]]) L (.drop n)) :=
        (meth_at (np := 2) (r := 0) (vs := [.int n]) rfl (A.ins _ (by decide +kernel)) fa rfl).trans (A.go (post := [.int n]) (by simp [refsVs, refsV]) rfl (refs_book _) fP' (drop_loc fP fL hP b hb n hn h0))
      rw [u_expr, em]
      rfl
    | chg n o =>
      obtain ⟨hn, ho⟩ : n < 6 ∧ o < 6 := h6
      obtain ⟨e0, e1, e2, e3, e4, e5⟩ := dl_chg b.v P L n o hn ho
      refine seq_nx ((if_f e0).trans rfl) ((if_f e1).trans ((if_f e2).trans ((if_t e3).trans ?_)))
      have fa : (aCons (aN 0) (aCons (aN 1) aNil)) sl (H5 b.v P L (.chg n o)) = .ok [.int n, .int o] (H5 b.v P L (.chg n o)) := by rw [u_acons, e4, u_ac1, u_acons, e5]; rfl
      have h0 : 0 < b.get n := by
        have h1 := get_ok1 hb n
        have h2 : ¬ (n = 6 ∨ b.get n = 0) := hno
        omega
      have em : dMeth "change" Poll_change 3 (dVar 0) (aCons (aN 0) (aCons (aN 1) aNil)) sl (H5 b.v P L (.chg n o)) = .ok (.int ((b.chg n o).get o)) (H6' (b.chg n o).v (P ++ [.tup [.tup [sChg, .int n, .int o], b.v]]) L (.chg n o)) :=
        (meth_at (np := 3) (r := 0) (vs := [.int n, .int o]) rfl (A.ins _ (by decide +kernel)) fa rfl).trans (A.go (post := [.int n, .int o]) (by simp [refsVs, refsV]) rfl (refs_book _) fP' (chg_loc fP fL hP b hb n o hn ho h0))
      rw [u_expr, em]
      rfl
  rw [key]
  rfl
end Pg
set_option Elab.async false
set_option linter.all false
set_option maxRecDepth 100000
set_option maxHeartbeats 4000000
set_option autoImplicit false
namespace Pg
open PySem PySem.Spec PyProof.Rows L2 Wr
theorem get_app {h : Hs} {k : Nat} {o : Ob} (G : Hs) (e : h[k]? = some o) : (h ++ G)[k]? = some o := by rw [List.getElem?_append_left (List.getElem?_eq_some_iff.mp e).1]; exact e
/-- two polls -/
structure Q2 (h : Hs) (r p q : Nat) (ps : Zl) (b : B6) (ls : Zl) (r' p' q' : Nat) (ps' : Zl) (b' : B6) (ls' : Zl) : Prop where
  pl : Pl h r p q ps b ls
  pk : Pl h r' p' q' ps' b' ls'
  rr : r ≠ r'
  pp : p ≠ p'
  pq : p ≠ q'
  qp : q ≠ p'
  qq : q ≠ q'
section
variable {h : Hs} {r p q r' p' q' : Nat} {ps : Zl} {b : B6} {ls : Zl} {ps' : Zl} {b' : B6} {ls' : Zl} (N : Q2 h r p q ps b ls r' p' q' ps' b' ls')
include N
theorem Q2.app (G : Hs) : Q2 (h ++ G) r p q ps b ls r' p' q' ps' b' ls' := ⟨N.pl.app G, N.pk.app G, N.rr, N.pp, N.pq, N.qp, N.qq⟩
theorem Q2.fr {h' : Hs} {q1 : Nat} {ps1 ls1 : Zl} {b1 : B6} (P : Pl h' r p q1 ps1 b1 ls1) (F : Fr h h' r p q) (hq : q1 = q ∨ h.length ≤ q1) : Q2 h' r p q1 ps1 b1 ls1 r' p' q' ps' b' ls' := by
  have l1 := (List.getElem?_eq_some_iff.mp N.pk.hp).1
  have l2 := (List.getElem?_eq_some_iff.mp N.pk.hq).1
  have x1 := N.qp
  have x2 := N.qq
  have pr : p ≠ r' := fun e => by have := N.pl.hp; rw [e, N.pk.hr] at this; cases this
  have qr : q ≠ r' := fun e => by have := N.pl.hq; rw [e, N.pk.hr] at this; cases this
  have rp : r ≠ p' := fun e => by have := N.pl.hr; rw [e, N.pk.hp] at this; cases this
  have rq : r ≠ q' := fun e => by have := N.pl.hr; rw [e, N.pk.hq] at this; cases this
  exact ⟨P, ⟨N.pk.rp, N.pk.rq, N.pk.pq, F.kept _ _ (Ne.symm N.rr) (Ne.symm pr) (Ne.symm qr) N.pk.hr, F.kept _ _ (Ne.symm rp) (Ne.symm N.pp) (Ne.symm N.qp) N.pk.hp, F.kept _ _ (Ne.symm rq) (Ne.symm N.pq) (Ne.symm N.qq) N.pk.hq, N.pk.fn, N.pk.fP, N.pk.fL⟩, N.rr, N.pp, N.pq, by omega, by omega⟩
end
theorem Pl.hnew (h : Hs) (ps : Zl) (b : B6) : Pl (h ++ [PI b.v (h.length + 1) (h.length + 2), .lst (PV (vv ps)), .lst []]) h.length (h.length + 1) (h.length + 2) ps b [] := by
  refine ⟨by omega, by omega, by omega, ?_, ?_, ?_, refs_book b, flatP1 ps, rfl⟩
  · simp
  · rw [List.getElem?_append_right (by omega)]; simp
  · rw [List.getElem?_append_right (by omega)]; simp; rfl
theorem Q2.new {h : Hs} {r p q : Nat} {ps : Zl} {b : B6} {ls : Zl} (A : Pl h r p q ps b ls) (ps' : Zl) (b' : B6) : Q2 (h ++ [PI b'.v (h.length + 1) (h.length + 2), .lst (PV (vv ps')), .lst []]) r p q ps b ls h.length (h.length + 1) (h.length + 2) ps' b' [] := by
  have l1 := (List.getElem?_eq_some_iff.mp A.hr).1
  have l2 := (List.getElem?_eq_some_iff.mp A.hp).1
  have l3 := (List.getElem?_eq_some_iff.mp A.hq).1
  exact ⟨A.app _, Pl.hnew h ps' b', by omega, by omega, by omega, by omega, by omega⟩
/-- a list beside a poll -/
structure Ul (h : Hs) (u p q : Nat) (R : List Va) : Prop where
  hu : h[u]? = some (.lst R)
  fR : refsVs R = []
  up : u ≠ p
  uq : u ≠ q
theorem Ul.app {h : Hs} {u p q : Nat} {R : List Va} (U : Ul h u p q R) (G : Hs) : Ul (h ++ G) u p q R := ⟨get_app G U.hu, U.fR, U.up, U.uq⟩
theorem Ul.fr {h h' : Hs} {r p q q1 u : Nat} {ps ls : Zl} {b : B6} {R : List Va} (U : Ul h u p q R) (A : Pl h r p q ps b ls) (F : Fr h h' r p q) (hq : q1 = q ∨ h.length ≤ q1) : Ul h' u p q1 R := by
  have l1 := (List.getElem?_eq_some_iff.mp U.hu).1
  have ur : u ≠ r := fun e => by have := U.hu; rw [e, A.hr] at this; cases this
  have := U.uq
  exact ⟨F.kept _ _ ur U.up U.uq U.hu, U.fR, U.up, by omega⟩
theorem Ul.new {h : Hs} {r p q : Nat} {ps ls : Zl} {b : B6} (A : Pl h r p q ps b ls) (R : List Va) (fR : refsVs R = []) : Ul (h ++ [.lst R]) h.length p q R := by
  have l2 := (List.getElem?_eq_some_iff.mp A.hp).1
  have l3 := (List.getElem?_eq_some_iff.mp A.hq).1
  exact ⟨by simp, fR, by omega, by omega⟩
theorem GoesG.ul {n0 : Nat} {D : List Nat} {h h2 : Hs} {f : Nat → Option Nat} (G : GoesG n0 D h h2 f) {u p q u1 p1 q1 : Nat} {R : List Va} (U : Ul h u p q R) (eu : f u = some u1) (ep : f p = some p1) (eq : f q = some q1) : Ul h2 u1 p1 q1 R :=
  ⟨G.lst eu U.hu U.fR, U.fR, G.ne eu ep U.up, G.ne eu eq U.uq⟩
def Lw (n0 : Nat) (h : Hs) (r : Nat) : Prop := ∀ k, k < n0 → k ≠ r → FlatAt h k
theorem Lw.app {n0 : Nat} {h : Hs} {r : Nat} (O : Lw n0 h r) (G : Hs) : Lw n0 (h ++ G) r := fun k hk hr => (O k hk hr).app G
theorem Lw.less {n0 n1 : Nat} {h : Hs} {r : Nat} (O : Lw n0 h r) (hn : n1 ≤ n0) : Lw n1 h r := fun k hk hr => O k (by omega) hr
theorem Lw.lst {h : Hs} {r : Nat} (O : Lw h.length h r) (l : List Va) (f : refsVs l = []) : Lw (h ++ [Ob.lst l]).length (h ++ [Ob.lst l]) r := fun k hk hr => by
  by_cases z : k < h.length
  · exact (O k z hr).app _
  · have : k = h.length := by simp at hk; omega
    subst this
    exact ⟨l, by simp, f⟩
theorem Lw.fr {n0 : Nat} {h h' : Hs} {r p q q' : Nat} {ps ls ps' ls' : Zl} {b b' : B6} (O : Lw n0 h r) (A : Pl h r p q ps b ls) (A' : Pl h' r p q' ps' b' ls') (F : Fr h h' r p q) : Lw n0 h' r := fun k hk hr => (O k hk hr).fr A A' F
theorem le_up' {b : B6} {i j : Int} (h : b.le i) (hij : i ≤ j) : b.le j := by unfold B6.le at *; omega
theorem Dd.can_of {d : Dd} {b : B6} (hd : d.ok) (hn : ¬ d.no b) (hb : b.ok1) : d.can b := by
  refine ⟨?_, hn, hb⟩
  cases d with
  | add n =>
    have h1 : n < 7 := hd
    have h2 : ¬ n = 6 := hn
    show n < 6
    omega
  | drop n =>
    have h1 : n < 7 := hd
    have h2 : ¬ (n = 6 ∨ b.get n = 0) := hn
    show n < 6
    omega
  | chg n o =>
    have h1 : n < 7 ∧ o < 6 := hd
    have h2 : ¬ (n = 6 ∨ b.get n = 0) := hn
    show n < 6 ∧ o < 6
    omega
theorem Run.nx {ps : Zl} {b : B6} (R : Run ps b) {d : Dd} (hd : d.ok) (hb : b.ok1) : Run (if d.no b then ps else ps ++ [(d, b)]) (d.nx b) := by
  by_cases hn : d.no b
  · simp only [if_pos hn, Dd.nx]; exact R
  · simp only [if_neg hn, Dd.nx]
    exact R.snoc d (Dd.can_of hd hn hb)
end Pg
set_option Elab.async false
set_option linter.all false
set_option maxRecDepth 100000
set_option maxHeartbeats 4000000
set_option autoImplicit false
namespace Wr
open PySem PySem.Spec PyProof.Rows L2
theorem cut_init {α : Type} (xs : List α) (x : α) : cutA (xs ++ [x]) none (some (-1)) = xs := by
  unfold cutA
  have e : HT.sIx (xs ++ [x]).length (xs ++ [x]).length (some (-1)) = xs.length := by
    unfold HT.sIx
    simp
    omega
  rw [HT.sIx_none, e, List.drop_zero, Nat.sub_zero, List.take_left]
theorem atI_last {α : Type} (xs : List α) (x : α) : L2.atI (xs ++ [x]) (-1) = some x := by
  unfold L2.atI L2.ixN
  rw [if_neg (by omega), if_pos (by simp; omega)]
  show (xs ++ [x])[(-1 + ((xs ++ [x]).length : Int)).toNat]? = _
  rw [show (-1 + ((xs ++ [x]).length : Int)).toNat = xs.length by simp; omega]
  simp
theorem reach_step0 {n : Nat} {h : Hs} {i : Nat} {t acc : List Nat} {o : Ob} (hi : h[i]? = some o) (fo : refsO o = []) (ha : acc.contains i = false) : Wr.reach (n + 1) h (i :: t) acc = Wr.reach n h t (acc ++ [i]) := by
  show (if acc.contains i = true then _ else _) = _
  rw [ha, if_neg Bool.false_ne_true, hi]
  show Wr.reach n h (refsO o ++ t) _ = _
  rw [fo, List.nil_append]
theorem reach_stepO {n : Nat} {h : Hs} {i : Nat} {t acc : List Nat} {o : Ob} (hi : h[i]? = some o) (ha : acc.contains i = false) : Wr.reach (n + 1) h (i :: t) acc = Wr.reach n h (refsO o ++ t) (acc ++ [i]) := by
  show (if acc.contains i = true then _ else _) = _
  rw [ha, if_neg Bool.false_ne_true, hi]
theorem kSplit_1 (L : List Nat) (c : Nat) (hc : c < 256) (hl : L.length ≤ 100000) (h : Hs) : kSplit (.str (tx L)) [.str (tx [c])] h = some (.ref h.length, h ++ [.lst (((splA c [] L).map tx).map Va.str)]) := by
  have h1 : (tx L).length = L.length := by simp [tx, Str.length]
  have h2 : ((!((tx [c]).length == 0)) && okN ((tx L).length + 2)) = true := by
    rw [h1]
    show okN (L.length + 2) = true
    exact decide_eq_true (by omega)
  unfold kSplit
  simp only [h2, if_true, split_1 L c hc]
end Wr
namespace Pg
open PySem PySem.Spec PyProof.Rows L2 Wr
theorem ptx_split (ps : Zl) : splA 10 [] (lnL ps) = (ps.map (·.1.ln)) ++ [[]] := by
  have := splA_lines 10 (ps.map (·.1.ln)) fun l hl => by
    obtain ⟨p, _, rfl⟩ := List.mem_map.mp hl
    exact ln_no p.1
  rw [← this]
  unfold lnL
  rw [List.flatMap_map]
theorem ln_split (d : Dd) : ((splA 32 [] d.ln).map tx).map Va.str = wds d := by
  have hs : ∀ n, splA 32 [] (nmL n) = [nmL n] := fun n => splA_no 32 _ _ (nm_no n).1.2
  cases d with
  | add n =>
    have : splA 32 [] (Dd.ln (.add n)) = [43] :: splA 32 [] (nmL n) := by
      show splA 32 [] ([43] ++ 32 :: nmL n) = _
      rw [splA_app 32 [43] _ _ (by decide)]; rfl
    rw [this, hs]; rfl
  | drop n =>
    have : splA 32 [] (Dd.ln (.drop n)) = [45] :: splA 32 [] (nmL n) := by
      show splA 32 [] ([45] ++ 32 :: nmL n) = _
      rw [splA_app 32 [45] _ _ (by decide)]; rfl
    rw [this, hs]; rfl
  | chg n o =>
    have : splA 32 [] (Dd.ln (.chg n o)) = nmL n :: splA 32 [] (nmL o) := by
      show splA 32 [] (nmL n ++ 32 :: nmL o) = _
      rw [splA_app 32 (nmL n) _ _ (nm_no n).1.2]; rfl
    rw [this, hs]; rfl
section
variable {o0 o1 o5 o6 o7 : Ob} {P L : List Va} (fP : refsVs P = []) (fL : refsVs L = []) (hP : P.length ≤ 1000) (b : B6) (d : Dd) (hd : d.can b)
include fP fL hP hd
theorem dl_call0 : callD do_line [.ref 3, .ref 8, .ref 2] [o0, o1, nums6, PI b.v 4 5, .lst P, .lst L, o6, o7, .lst (wds d)] = .ok .non [o0, o1, nums6, PI (d.to b).v 4 9, .lst (P ++ [Va.tup [d.v, b.v]]), .lst L, o6, o7, .lst (wds d), .lst []] := by
  have fb := refs_book b
  have fw : refsVs (wds d) = [] := rfl
  have fu : refsO nums6 = [] := rfl
  have fP' : refsVs (P ++ [Va.tup [d.v, b.v]]) = [] := by simp [refs_app, fP, refsVs, refsV, d.flat, fb]
  have A : At [o0, o1, nums6, PI b.v 4 5, .lst P, .lst L, o6, o7, .lst (wds d)] 3 4 5 b.v P L := ⟨by decide, by decide, by decide, rfl, rfl, rfl, fb, fP, fL⟩
  have m : Wr.reach 300 [o0, o1, nums6, PI b.v 4 5, .lst P, .lst L, o6, o7, .lst (wds d)] (refsVs [.ref 3, .ref 8, .ref 2]) [] = [3, 4, 5, 8, 2] := by
    show Wr.reach (297 + 3) _ (3 :: [8, 2]) [] = _
    rw [A.reach]
    rw [reach_step0 (n := 296) (o := .lst (wds d)) rfl fw rfl, reach_step0 (n := 295) (o := nums6) rfl fu rfl]
    rfl
  have s : selO [3, 4, 5, 8, 2] [o0, o1, nums6, PI b.v 4 5, .lst P, .lst L, o6, o7, .lst (wds d)] [3, 4, 5, 8, 2] = some (H5 b.v P L d) := by
    have i1 : idx [3, 4, 5, 8, 2] 4 = some 1 := rfl
    have i5 : idx [3, 4, 5, 8, 2] 5 = some 2 := rfl
    have n1 : renO (idx [3, 4, 5, 8, 2]) nums6 = some nums6 := renO_low _ (nil_low fu)
    have n2 : renO (idx [3, 4, 5, 8, 2]) (.lst (wds d)) = some (.lst (wds d)) := renO_lst fw
    simp [selO, ren_PI fb i1 i5, renO_lst fP, renO_lst fL, n1, n2]
  have r : rens (idx [3, 4, 5, 8, 2]) [.ref 3, .ref 8, .ref 2] = some [.ref 0, .ref 3, .ref 4] := rfl
  unfold callD
  simp only [m, r, s, show nodupB [3, 4, 5, 8, 2] = true from rfl, if_true]
  rw [do_line_loc b fP fL hP d hd]
  have rb : renOs (bkI [3, 4, 5, 8, 2] 9) (H6' (d.to b).v (P ++ [Va.tup [d.v, b.v]]) L d) = some [PI (d.to b).v 4 9, .lst (P ++ [Va.tup [d.v, b.v]]), .lst L, .lst (wds d), nums6, .lst []] := by
    have i1 : bkI [3, 4, 5, 8, 2] 9 1 = some 4 := rfl
    have i5 : bkI [3, 4, 5, 8, 2] 9 5 = some 9 := rfl
    have n1 : renO (bkI [3, 4, 5, 8, 2] 9) nums6 = some nums6 := renO_low _ (nil_low fu)
    have n2 : renO (bkI [3, 4, 5, 8, 2] 9) (.lst (wds d)) = some (.lst (wds d)) := renO_lst fw
    simp [renOs, ren_PI (refs_book (d.to b)) i1 i5, renO_lst fP', renO_lst fL, n1, n2, renO_lst (show refsVs [] = [] from rfl)]
  show (match ren (bkI [3, 4, 5, 8, 2] 9) .non with
    | some v' => match backH [3, 4, 5, 8, 2] _ (H6' (d.to b).v (P ++ [Va.tup [d.v, b.v]]) L d) with
      | some h2 => Rs.ok v' h2
      | none => .no
    | none => .no) = _
  unfold backH
  rw [show List.length [o0, o1, nums6, PI b.v 4 5, Ob.lst P, .lst L, o6, o7, .lst (wds d)] = 9 from rfl, rb]
  rfl
end
end Pg
set_option Elab.async false
set_option linter.all false
set_option maxRecDepth 100000
set_option maxHeartbeats 4000000
set_option autoImplicit false
namespace Pg
open PySem PySem.Spec PyProof.Rows L2 Wr
section
variable {o0 o1 o5 o6 o7 : Ob} {P L : List Va} (fP : refsVs P = []) (fL : refsVs L = []) (hP : P.length ≤ 1000) (b : B6) (d : Dd) (hd : d.can b)
include fP fL hP hd
theorem dl_call1 : callD do_line [.ref 3, .ref 9, .ref 2] [o0, o1, nums6, PI b.v 4 8, .lst P, o5, o6, o7, .lst L, .lst (wds d)] = .ok .non [o0, o1, nums6, PI (d.to b).v 4 10, .lst (P ++ [Va.tup [d.v, b.v]]), o5, o6, o7, .lst L, .lst (wds d), .lst []] := by
  have fb := refs_book b
  have fw : refsVs (wds d) = [] := rfl
  have fu : refsO nums6 = [] := rfl
  have fP' : refsVs (P ++ [Va.tup [d.v, b.v]]) = [] := by simp [refs_app, fP, refsVs, refsV, d.flat, fb]
  have A : At [o0, o1, nums6, PI b.v 4 8, .lst P, o5, o6, o7, .lst L, .lst (wds d)] 3 4 8 b.v P L := ⟨by decide, by decide, by decide, rfl, rfl, rfl, fb, fP, fL⟩
  have m : Wr.reach 300 [o0, o1, nums6, PI b.v 4 8, .lst P, o5, o6, o7, .lst L, .lst (wds d)] (refsVs [.ref 3, .ref 9, .ref 2]) [] = [3, 4, 8, 9, 2] := by
    show Wr.reach (297 + 3) _ (3 :: [9, 2]) [] = _
    rw [A.reach]
    rw [reach_step0 (n := 296) (o := .lst (wds d)) rfl fw rfl, reach_step0 (n := 295) (o := nums6) rfl fu rfl]
    rfl
  have s : selO [3, 4, 8, 9, 2] [o0, o1, nums6, PI b.v 4 8, .lst P, o5, o6, o7, .lst L, .lst (wds d)] [3, 4, 8, 9, 2] = some (H5 b.v P L d) := by
    have i1 : idx [3, 4, 8, 9, 2] 4 = some 1 := rfl
    have i5 : idx [3, 4, 8, 9, 2] 8 = some 2 := rfl
    have n1 : renO (idx [3, 4, 8, 9, 2]) nums6 = some nums6 := renO_low _ (nil_low fu)
    have n2 : renO (idx [3, 4, 8, 9, 2]) (.lst (wds d)) = some (.lst (wds d)) := renO_lst fw
    simp [selO, ren_PI fb i1 i5, renO_lst fP, renO_lst fL, n1, n2]
  have r : rens (idx [3, 4, 8, 9, 2]) [.ref 3, .ref 9, .ref 2] = some [.ref 0, .ref 3, .ref 4] := rfl
  unfold callD
  simp only [m, r, s, show nodupB [3, 4, 8, 9, 2] = true from rfl, if_true]
  rw [do_line_loc b fP fL hP d hd]
  have rb : renOs (bkI [3, 4, 8, 9, 2] 10) (H6' (d.to b).v (P ++ [Va.tup [d.v, b.v]]) L d) = some [PI (d.to b).v 4 10, .lst (P ++ [Va.tup [d.v, b.v]]), .lst L, .lst (wds d), nums6, .lst []] := by
    have i1 : bkI [3, 4, 8, 9, 2] 10 1 = some 4 := rfl
    have i5 : bkI [3, 4, 8, 9, 2] 10 5 = some 10 := rfl
    have n1 : renO (bkI [3, 4, 8, 9, 2] 10) nums6 = some nums6 := renO_low _ (nil_low fu)
    have n2 : renO (bkI [3, 4, 8, 9, 2] 10) (.lst (wds d)) = some (.lst (wds d)) := renO_lst fw
    simp [renOs, ren_PI (refs_book (d.to b)) i1 i5, renO_lst fP', renO_lst fL, n1, n2, renO_lst (show refsVs [] = [] from rfl)]
  show (match ren (bkI [3, 4, 8, 9, 2] 10) .non with
    | some v' => match backH [3, 4, 8, 9, 2] _ (H6' (d.to b).v (P ++ [Va.tup [d.v, b.v]]) L d) with
      | some h2 => Rs.ok v' h2
      | none => .no
    | none => .no) = _
  unfold backH
  rw [show List.length [o0, o1, nums6, PI b.v 4 8, Ob.lst P, o5, o6, o7, .lst L, .lst (wds d)] = 10 from rfl, rb]
  rfl
end
theorem reach_sk (h : Hs) : ∀ (X t acc : List Nat) (n : Nat), (∀ x ∈ X, x ∈ acc) → Wr.reach (n + X.length) h (X ++ t) acc = Wr.reach n h t acc
  | [], t, acc, n, _ => rfl
  | x :: X, t, acc, n, hx => by
    show Wr.reach (n + X.length + 1) h (x :: (X ++ t)) acc = _
    rw [Wr.reach, if_pos (List.contains_iff_mem.mpr (hx x (by simp)))]
    exact reach_sk h X t acc n fun z hz => hx z (by simp [hz])
section
variable {o0 o1 o5 o6 o7 : Ob} (f0 : refsO o0 = []) (f1 : refsO o1 = []) (f5 : refsO o5 = []) (f6 : refsO o6 = []) (f7 : refsO o7 = []) {now : Va} (fn : refsV now = []) {P L : List Va} (fP : refsVs P = []) (fL : refsVs L = [])
abbrev sR (v5 : Option Va) : Sg := [none, some (.ref 2), none, none, some (.ref 3), v5]
include f0 f1 f5 f6 f7 fn fP
theorem cl_0 {live : List Nat} {s : Sg} (hm : maskS live 0 s = sR none) : cleanS 8 live s [o0, o1, nums6, PI now 4 5, .lst P, o5, o6, o7] = some (sR none, [o0, o1, nums6, PI now 4 5, .lst P, o5, o6, o7]) := by
  refine clean_to (by simp) hm rfl ?_ ?_
  · intro z hz
    have : z = 2 ∨ z = 3 := by simpa [sR, refsS, refsV] using hz
    omega
  · intro z hz
    simp only [List.flatMap_cons, List.flatMap_nil, f0, f1, f5, f6, f7, refs_PI fn, show refsO (.lst P) = [] from fP, show refsO nums6 = [] from rfl, List.nil_append, List.append_nil, List.mem_cons, List.not_mem_nil, or_false] at hz
    omega
include fL
theorem cl_q {live : List Nat} {s : Sg} {h : Hs} {q : Nat} (hq : 8 ≤ q) (hm : maskS live 0 s = sR none) (e0 : h.take 8 = [o0, o1, nums6, PI now 4 q, .lst P, o5, o6, o7]) (eq : h[q]? = some (.lst L)) : cleanS 8 live s h = some (sR none, [o0, o1, nums6, PI now 4 8, .lst P, o5, o6, o7, .lst L]) := by
  have g : ∀ i, i < 8 → h[i]? = (h.take 8)[i]? := fun i hi => by rw [List.getElem?_take, if_pos hi]
  rw [e0] at g
  have g0 : h[0]? = some o0 := g 0 (by omega)
  have g1 : h[1]? = some o1 := g 1 (by omega)
  have g2 : h[2]? = some nums6 := g 2 (by omega)
  have g3 : h[3]? = some (PI now 4 q) := g 3 (by omega)
  have g4 : h[4]? = some (.lst P) := g 4 (by omega)
  have g5 : h[5]? = some o5 := g 5 (by omega)
  have g6 : h[6]? = some o6 := g 6 (by omega)
  have g7 : h[7]? = some o7 := g 7 (by omega)
  have fu : refsO nums6 = [] := rfl
  have ix : ∀ j, j < 8 → idx [0, 1, 2, 3, 4, 5, 6, 7, q] j = some j := fun j hj => by
    rcases (show j = 0 ∨ j = 1 ∨ j = 2 ∨ j = 3 ∨ j = 4 ∨ j = 5 ∨ j = 6 ∨ j = 7 by omega) with rfl | rfl | rfl | rfl | rfl | rfl | rfl | rfl <;> rfl
  have iq : idx [0, 1, 2, 3, 4, 5, 6, 7, q] q = some 8 := idx_at _ 8 q (by simp; omega) rfl
  refine clean_by (s1 := sR none) (m := [0, 1, 2, 3, 4, 5, 6, 7, q]) (rs := [2, 3]) hm rfl ?_ (nodupB_of (by simp; omega)) ?_ ?_
  · rw [e0]
    have e1 : List.flatMap refsO [o0, o1, nums6, PI now 4 q, Ob.lst P, o5, o6, o7] = [4, q] := by
      simp only [List.flatMap_cons, List.flatMap_nil, f0, f1, f5, f6, f7, refs_PI fn, show refsO (.lst P) = [] from fP, fu, List.nil_append, List.append_nil]
    rw [e1]
    have e2 : Wr.reach 300 h ([2, 3] ++ [4, q]) [] = [2, 3, 4, q] := by
      show Wr.reach (299 + 1) h (2 :: [3, 4, q]) [] = _
      rw [reach_step0 g2 fu rfl]
      show Wr.reach (298 + 1) h (3 :: [4, q]) [2] = _
      rw [reach_stepO g3 rfl, refs_PI fn]
      show Wr.reach (297 + 1) h (4 :: [q, 4, q]) [2, 3] = _
      rw [reach_step0 g4 fP rfl]
      show Wr.reach (296 + 1) h (q :: [4, q]) [2, 3, 4] = _
      rw [reach_step0 eq fL (by simp; omega)]
      have := reach_sk h [4, q] [] [2, 3, 4, q] 294 (fun x hx => by simp at hx ⊢; omega)
      simpa [Wr.reach] using this
    rw [e2]
    have : List.filter (fun i => decide (8 ≤ i)) [2, 3, 4, q] = [q] := by simp [hq]
    rw [this]
    rfl
  · have n : ∀ {o : Ob}, refsO o = [] → renO (idx [0, 1, 2, 3, 4, 5, 6, 7, q]) o = some o := fun h => renO_low _ (nil_low h)
    simp only [selO, g0, g1, g2, g3, g4, g5, g6, g7, eq, n f0, n f1, n fu, n f5, n f6, n f7, ren_PI fn (ix 4 (by omega)) iq, renO_lst fP, renO_lst fL]
  · simp only [sR, renSl, ren, ix 2 (by omega), ix 3 (by omega), Option.map_some]
end
section
variable (ps : Zl) (b : B6) (R : Run ps b) (hp : ps.length ≤ 150)
def lnV (ps : Zl) : List Va := ps.map fun p => .str (tx p.1.ln)
def prs6 : List Va := [.tup [.str (tx (nmL 0)), .int 0], .tup [.str (tx (nmL 1)), .int 1], .tup [.str (tx (nmL 2)), .int 2], .tup [.str (tx (nmL 3)), .int 3], .tup [.str (tx (nmL 4)), .int 4], .tup [.str (tx (nmL 5)), .int 5]]
def hR (ps : Zl) (b : B6) (j : Nat) : Hs := if j = 0 then [.lst (lnV ps ++ [.str (tx [])]), .lst prs6, nums6, PI zb0.v 4 5, .lst [], .lst [], .lst (lnV ps ++ [.str (tx [])]), .lst (lnV ps)]
  else [.lst (lnV ps ++ [.str (tx [])]), .lst prs6, nums6, PI (bkAt ps b j).v 4 8, .lst (PV (vv (ps.take j))), .lst [], .lst (lnV ps ++ [.str (tx [])]), .lst (lnV ps), .lst []]
include R hp
end
end Pg
set_option Elab.async false
set_option linter.all false
set_option maxRecDepth 100000
set_option maxHeartbeats 4000000
set_option autoImplicit false
namespace Pg
open PySem PySem.Spec PyProof.Rows L2 Wr
abbrev S6 (v : Option Va) (v1 v4 v5 : Option Va) : Sg := [v, v1, none, none, v4, v5]
abbrev spE : De := dM "str" kSplit (dVar 0) (aCons (dC (.str (Str.mk #[10]))) aNil)
abbrev nmC : Ds := dSet 1 (dB kDict (aCons (dComp [2, 3] (dEnum (aCons (dC c_WISHES) aNil)) (.tp [2, 3]) dYes (dTup (aCons (dCall wish_text 1 (aCons (dVar 3) aNil)) (aCons (dVar 2) aNil)))) aNil))
theorem rd_2 (v : Option Va) (o : Ob) : nmC (S6 v none none none) [o] = .nx (S6 v (some (.ref 2)) none none) [o, .lst prs6, nums6] := by kernel_rfl
theorem rd_3 (v : Option Va) (o : Ob) : dSet 4 (dMake Poll___init__) (S6 v (some (.ref 2)) none none) [o, .lst prs6, nums6] = .nx (S6 v (some (.ref 2)) (some (.ref 3)) none) [o, .lst prs6, nums6, PI zb0.v 4 5, .lst [], .lst []] := by kernel_rfl
end Pg
set_option Elab.async false
set_option linter.all false
set_option maxRecDepth 100000
set_option maxHeartbeats 4000000
set_option autoImplicit false
namespace Pg
open PySem PySem.Spec PyProof.Rows L2 Wr
def Dd.l0 : Dd → List Nat
  | .add _ => [43]
  | .drop _ => [45]
  | .chg n _ => nmL n
def Dd.l1 : Dd → List Nat
  | .add n => nmL n
  | .drop n => nmL n
  | .chg _ o => nmL o
theorem Dd.ln_is (d : Dd) : d.ln = d.l0 ++ [32] ++ d.l1 := by cases d <;> simp [Dd.ln, Dd.l0, Dd.l1]
end Pg
set_option Elab.async false
set_option linter.all false
set_option maxRecDepth 100000
set_option maxHeartbeats 4000000
set_option autoImplicit false
namespace Pg
open PySem PySem.Spec PyProof.Rows L2 Wr
theorem call_of {F : Fn} {n : Nat} {fa : Da} {s : Sg} {h h1 h2 : Hs} {vs : List Va} {v : Va} (ha : fa s h = .ok vs h1) (hn : vs.length = n) (e : callD F vs h1 = .ok v h2) : dCall F n fa s h = .ok v h2 := by
  unfold dCall
  rw [ha]
  simp only [Rs.bind, hn, beq_self_eq_true, if_true, e]
theorem arg_of {f : De} {fa : Da} {s : Sg} {h h1 h2 : Hs} {v : Va} {vs : List Va} (e1 : f s h = .ok v h1) (e2 : fa s h1 = .ok vs h2) : aCons f fa s h = .ok (v :: vs) h2 := by
  unfold aCons
  rw [e1]
  simp only [Rs.bind, e2]
theorem arg_nil {s : Sg} {h : Hs} : aNil s h = .ok [] h := rfl
theorem set_of {i : Nat} {f : De} {s : Sg} {h h1 : Hs} {v : Va} (e : f s h = .ok v h1) : dSet i f s h = .nx (s.set i (some v)) h1 := by
  unfold dSet
  rw [e]
  rfl
theorem exp_of {f : De} {s : Sg} {h h1 : Hs} {v : Va} (e : f s h = .ok v h1) : dExpr f s h = .nx s h1 := by
  unfold dExpr
  rw [e]
  rfl
theorem b_of {k : List Va → Hs → Option (Va × Hs)} {fa : Da} {s : Sg} {h h1 h2 : Hs} {vs : List Va} {v : Va} (ha : fa s h = .ok vs h1) (e : k vs h1 = some (v, h2)) : dB k fa s h = .ok v h2 := by
  unfold dB
  rw [ha]
  show liftO (k vs h1) = _
  rw [e]
  rfl
theorem var_of {i : Nat} {s : Sg} {h : Hs} {v : Va} (e : s[i]? = some (some v)) : dVar i s h = .ok v h := by unfold dVar; rw [e]
theorem par_of {i j : Nat} {f : Da} {s : Sg} {h h1 : Hs} {v w : Va} (e : f s h = .ok [v, w] h1) : dPar [i, j] f s h = .nx ((s.set i (some v)).set j (some w)) h1 := by
  unfold dPar
  rw [e]
  rfl
theorem ln_lay (d : Dd) : ∀ c ∈ d.ln, c < 256 := by
  intro c hc
  rw [Dd.ln_is] at hc
  have key : ∀ n, ∀ c ∈ nmL n, c < 256 := fun n => (nm_no n).2
  simp only [List.mem_append, List.mem_singleton] at hc
  rcases hc with (h | h) | h
  · cases d with
    | add n => simp [Dd.l0] at h; omega
    | drop n => simp [Dd.l0] at h; omega
    | chg n o => exact key n c h
  · omega
  · cases d with
    | add n => exact key n c h
    | drop n => exact key n c h
    | chg n o => exact key o c h
theorem B6.le.to {b : B6} {k : Int} (h : b.le k) {d : Dd} (hd : d.can b) : (d.to b).le (k + 1) := by
  have ok : d.ok := by
    have := hd.1
    cases d with
    | add n => have h1 : n < 6 := this; show n < 7; omega
    | drop n => have h1 : n < 6 := this; show n < 7; omega
    | chg n o => have h1 : n < 6 ∧ o < 6 := this; show n < 7 ∧ o < 6; omega
  have := h.nx d ok
  unfold Dd.nx at this
  rwa [if_neg hd.2.1] at this
theorem snoc_of {α : Type} (l : List α) (h : l ≠ []) : ∃ t x, l = t ++ [x] := ⟨l.dropLast, l.getLast h, (List.dropLast_concat_getLast h).symm⟩
theorem Run.le : ∀ (n : Nat) {ps : Zl} {b : B6}, ps.length = n → Run ps b → b.le n
  | 0, ps, b, e, R => by
    have e0 : ps = [] := List.length_eq_zero_iff.mp e
    subst e0
    have hz : b = zb0 := R.z
    subst hz
    unfold B6.le zb0
    simp
  | n + 1, ps, b, e, R => by
    obtain ⟨t, ⟨d, c⟩, rfl⟩ := snoc_of ps (fun z => by rw [z] at e; simp at e)
    obtain ⟨R', eb, hc⟩ := R.init
    subst eb
    have := Run.le n (by simpa using e) R'
    have := this.to hc
    push_cast
    exact this
section
variable {h : Hs} {r p q : Nat} {ps ls : Zl} {b : B6} (A : Pl h r p q ps b ls) {s : Sg} {i : Nat} (hs : s[i]? = some (some (.ref r)))
include A hs
theorem book_e : dMeth0 "book" Poll_book (dVar i) s h = .ok b.v h := (meth0_is (r := r) hs (A.ins _ (by decide +kernel))).trans (book_pl A)
theorem text_e (hp : ps.length ≤ 150) (hl : ls.length ≤ 150) (R : Run ps b) : dCall poll_text 1 (aCons (dVar i) aNil) s h = .ok (.str (ptx ps)) h :=
  call_of (arg_of (var_of hs) arg_nil) rfl (poll_text_pl A hp hl R.ok6)
end
end Pg
set_option Elab.async false
set_option linter.all false
set_option maxRecDepth 100000
set_option maxHeartbeats 0
set_option autoImplicit false
namespace Wr
open PySem PySem.Spec PyProof.Rows L2
theorem eq_str (a b : Str) (h : Hs) (ha : PyData.strOk a = true) (hb : PyData.strOk b = true) : kEq (.str a) (.str b) h = some (.bl (decide (a = b)), h) := by
  unfold kEq
  rw [toD_str _ _ _ ha, toD_str _ _ _ hb]
  simp only [PyData.eqv]
  congr 3
theorem ne_str (a b : Str) (h : Hs) (ha : PyData.strOk a = true) (hb : PyData.strOk b = true) : kNe (.str a) (.str b) h = some (.bl (!decide (a = b)), h) := by
  unfold kNe
  rw [toD_str _ _ _ ha, toD_str _ _ _ hb]
  simp only [PyData.eqv]
  congr 4
end Wr
namespace Pg
open PySem PySem.Spec PyProof.Rows L2 Wr
end Pg
set_option Elab.async false
set_option linter.all false
set_option maxRecDepth 100000
set_option maxHeartbeats 4000000
set_option autoImplicit false
namespace Wr
open PySem PySem.Spec PyProof.Rows L2
theorem splA_ne (c : Nat) : ∀ (l acc : List Nat), splA c acc l ≠ []
  | [], acc => by simp [splA]
  | x :: t, acc => by
    unfold splA
    split
    · simp
    · exact splA_ne c t _
theorem tx_inj {a b : List Nat} : tx a = tx b ↔ a = b := by
  constructor
  · intro h
    have : a.toArray = b.toArray := congrArg Str.cps h
    simpa using this
  · intro h
    rw [h]
theorem tx_len (a : List Nat) : (tx a).length = a.length := by simp [tx, Str.length]
theorem tx_ok {a : List Nat} (h : ∀ c ∈ a, c < 0x110000) : PyData.strOk (tx a) = true := by
  rw [strOk_iff]
  exact h
theorem ne_tx {a b : List Nat} (ha : ∀ c ∈ a, c < 0x110000) (hb : ∀ c ∈ b, c < 0x110000) (h : Hs) : kNe (.str (tx a)) (.str (tx b)) h = some (.bl (!decide (a = b)), h) := by
  rw [ne_str _ _ h (tx_ok ha) (tx_ok hb)]
  simp only [tx_inj]
theorem eq_tx {a b : List Nat} (ha : ∀ c ∈ a, c < 0x110000) (hb : ∀ c ∈ b, c < 0x110000) (h : Hs) : kEq (.str (tx a)) (.str (tx b)) h = some (.bl (decide (a = b)), h) := by
  rw [eq_str _ _ h (tx_ok ha) (tx_ok hb)]
  simp only [tx_inj]
theorem spl_mem (c : Nat) : ∀ (l acc : List Nat) (P : Nat → Prop), (∀ x ∈ l, P x) → (∀ x ∈ acc, P x) → ∀ w ∈ splA c acc l, ∀ x ∈ w, P x
  | [], acc, P, hl, ha, w, hw => by simp [splA] at hw; rw [hw]; exact ha
  | y :: t, acc, P, hl, ha, w, hw => by
    have ht : ∀ x ∈ t, P x := fun x hx => hl x (List.mem_cons_of_mem _ hx)
    unfold splA at hw
    split at hw
    · rcases List.mem_cons.mp hw with rfl | hw
      · exact ha
      · exact spl_mem c t [] P ht (fun x hx => nomatch hx) w hw
    · exact spl_mem c t _ P ht (fun x hx => by
        rcases List.mem_append.mp hx with h | h
        · exact ha x h
        · rw [List.mem_singleton.mp h]; exact hl y (by simp)) w hw
theorem spl_len (c : Nat) : ∀ (l acc w : List Nat), w ∈ splA c acc l → w.length ≤ acc.length + l.length
  | [], acc, w, hw => by simp [splA] at hw; simp [hw]
  | y :: t, acc, w, hw => by
    unfold splA at hw
    split at hw
    · rcases List.mem_cons.mp hw with rfl | hw
      · simp
      · have := spl_len c t [] w hw
        simp at this ⊢
        omega
    · have := spl_len c t _ w hw
      simp at this ⊢
      omega
theorem spl_many (c : Nat) : ∀ (l acc : List Nat), (splA c acc l).length ≤ l.length + 1
  | [], acc => by simp [splA]
  | y :: t, acc => by
    unfold splA
    split
    · have := spl_many c t []
      simp
      omega
    · have := spl_many c t (acc ++ [y])
      simp
      omega
def Stops (r : RS) : Prop := (∃ c s h, r = .ex c s h) ∨ ∃ v h, r = .rt v h
theorem forC_fold {σ α : Type} {n0 : Nat} {live : List Nat} {it : It'} {t : Tg} {body : Ds} (st : σ → Sg) (hp : σ → Hs) (xs : List α) (val : α → Va) (f : σ → α → Option σ) (Z : RS → Prop) (hZ : ∀ r, Z r → Stops r)
    (hx : ∀ j s, j ≤ xs.length → nxt it j (hp s) = some (xs[j]?.map val))
    (step : ∀ s x, x ∈ xs → ∃ s1, setT t (val x) (st s) (hp s) = some s1 ∧ ((∃ s', f s x = some s' ∧ ∃ s2 h2, body s1 (hp s) = .nx s2 h2 ∧ cleanS n0 live s2 h2 = some (st s', hp s')) ∨ (f s x = none ∧ Z (body s1 (hp s))))) :
    ∀ (k j : Nat) (s : σ) (s0 : Sg) (h0 : Hs), j + k = xs.length + 1 → 0 < k → cleanS n0 live s0 h0 = some (st s, hp s) →
      (∃ s', (xs.drop j).foldlM f s = some s' ∧ forC n0 live it t body k j s0 h0 = .nx (st s') (hp s')) ∨ ((xs.drop j).foldlM f s = none ∧ Z (forC n0 live it t body k j s0 h0))
  | 0, _, _, _, _, _, z, _ => absurd z (Nat.lt_irrefl 0)
  | k + 1, j, s, s0, h0, e, _, hc => by
    rw [u_forS, hc, u_fA, hx j s (by omega)]
    by_cases hj : j < xs.length
    · obtain ⟨s1, q1, q2⟩ := step s xs[j] (List.getElem_mem hj)
      rw [List.getElem?_eq_getElem hj, Option.map_some, u_fB1, q1, u_fC, List.drop_eq_getElem_cons hj]
      rcases q2 with ⟨s', g1, s2, h2, g2, g3⟩ | ⟨g1, g2⟩
      · rw [g2, u_con1]
        have := forC_fold st hp xs val f Z hZ hx step k (j + 1) s' s2 h2 (by omega) (by omega) g3
        rw [List.foldlM_cons, g1]
        exact this
      · right
        rw [List.foldlM_cons, g1]
        refine ⟨rfl, ?_⟩
        generalize hr : body s1 (hp s) = r at g2
        rcases hZ r g2 with ⟨c, s3, h3, rfl⟩ | ⟨v, h3, rfl⟩
        · exact g2
        · exact g2
    · have e2 : j = xs.length := by omega
      subst e2
      left
      rw [List.getElem?_eq_none (Nat.le_refl _), List.drop_length]
      exact ⟨s, rfl, rfl⟩
end Wr
set_option Elab.async false
set_option linter.all false
set_option maxRecDepth 100000
set_option maxHeartbeats 4000000
set_option autoImplicit false
namespace Wr
open PySem PySem.Spec PyProof.Rows L2
end Wr
namespace Pg
open PySem PySem.Spec PyProof.Rows L2 Wr
end Pg
set_option Elab.async false
set_option linter.all false
set_option maxRecDepth 100000
set_option maxHeartbeats 4000000
set_option autoImplicit false
namespace Wr
open PySem PySem.Spec PyProof.Rows L2
end Wr
namespace Pg
open PySem PySem.Spec PyProof.Rows L2 Wr
end Pg
set_option Elab.async false
set_option linter.all false
set_option maxRecDepth 100000
set_option maxHeartbeats 4000000
set_option autoImplicit false
namespace Xt
open PySem PySem.Spec PyProof.Rows L2 Wr Pg
abbrev W6' : Ob := .lst [wv 0, wv 1, wv 2, wv 3, wv 4, wv 5]
end Xt
set_option Elab.async false
set_option linter.all false
set_option maxRecDepth 100000
set_option maxHeartbeats 4000000
set_option autoImplicit false
namespace Wr
open PySem PySem.Spec PyProof.Rows L2
end Wr
namespace Pg
open PySem PySem.Spec PyProof.Rows L2 Wr
theorem ex_seqA {f g : Ds} {s s1 : Sg} {h h1 : Hs} {c : Nat} (e : f s h = .ex c s1 h1) : dSeq f g s h = .ex c s1 h1 := by
  unfold dSeq; rw [e]
end Pg
set_option Elab.async false
set_option linter.all false
set_option maxRecDepth 100000
set_option maxHeartbeats 4000000
set_option autoImplicit false
namespace Xt
open PySem PySem.Spec PyProof.Rows L2 Wr Pg
def nmI (m : List Nat) : Option Nat := if m = nmL 0 then some 0 else if m = nmL 1 then some 1 else if m = nmL 2 then some 2 else if m = nmL 3 then some 3 else if m = nmL 4 then some 4 else if m = nmL 5 then some 5 else none
theorem nmI_some {m : List Nat} {k : Nat} (h : nmI m = some k) : k < 6 ∧ m = nmL k := by
  unfold nmI at h
  split at h
  · cases h; exact ⟨by omega, ‹_›⟩
  · split at h
    · cases h; exact ⟨by omega, ‹_›⟩
    · split at h
      · cases h; exact ⟨by omega, ‹_›⟩
      · split at h
        · cases h; exact ⟨by omega, ‹_›⟩
        · split at h
          · cases h; exact ⟨by omega, ‹_›⟩
          · split at h
            · cases h; exact ⟨by omega, ‹_›⟩
            · cases h
theorem nmI_none {m : List Nat} (h : nmI m = none) : ∀ k < 6, m ≠ nmL k := by
  intro k hk e
  subst e
  have : ∀ k < 6, nmI (nmL k) ≠ none := by decide +kernel
  exact this k hk h
def put (b : B6) (k : Nat) (n : Int) : B6 := match k with
  | 0 => { b with a := n }
  | 1 => { b with b := n }
  | 2 => { b with c := n }
  | 3 => { b with d := n }
  | 4 => { b with e := n }
  | _ => { b with f := n }
end Xt
set_option Elab.async false
set_option linter.all false
set_option maxRecDepth 100000
set_option maxHeartbeats 4000000
set_option autoImplicit false
namespace Xt
open PySem PySem.Spec PyProof.Rows L2 Wr Pg
theorem arg_ex1 {f : De} {fa : Da} {s : Sg} {h h1 : Hs} {c : Nat} (e : f s h = .ex c h1) : aCons f fa s h = .ex c h1 := by
  unfold aCons
  rw [e]
  rfl
theorem call_ex {F : Fn} {n : Nat} {fa : Da} {s : Sg} {h h1 h2 : Hs} {vs : List Va} {c : Nat} (ha : fa s h = .ok vs h1) (hn : vs.length = n) (e : callD F vs h1 = .ex c h2) : dCall F n fa s h = .ex c h2 := by
  unfold dCall
  rw [ha]
  simp only [Rs.bind, hn, beq_self_eq_true, if_true, e]
theorem neInt (i j : Int) (h : Hs) : kNe (.int i) (.int j) h = some (.bl (!decide (i = j)), h) := by rw [u_ne, toD_int, toD_int, u_eq2f, eqv_int]
def sL (ls : List (List Nat)) : List Va := ls.map fun l => .str (tx l)
theorem refs_sL (ls : List (List Nat)) : refsVs (sL ls) = [] := flatM _ (fun _ => rfl) ls
theorem sL_map (ls : List (List Nat)) : ((ls.map tx).map Va.str) = sL ls := by simp [sL, List.map_map, Function.comp_def]
theorem m_split1 {s : Sg} {i : Nat} {c : Nat} {l : List Nat} (hc : c < 256) (hl : l.length ≤ 100000) (hs : s[i]? = some (some (.str (tx l)))) (h : Hs) : dM "str" kSplit (dVar i) (aCons (dC (.str (tx [c]))) aNil) s h = .ok (.ref h.length) (h ++ [.lst (sL (splA c [] l))]) := by
  have e : dVar i s h = .ok (.str (tx l)) h := var_of hs
  unfold dM
  rw [e]
  show liftO (kSplit (.str (tx l)) [.str (tx [c])] h) = _
  rw [kSplit_1 l c hc hl, sL_map]
  rfl
end Xt
set_option Elab.async false
set_option linter.all false
set_option maxRecDepth 100000
set_option maxHeartbeats 4000000
set_option autoImplicit false
namespace Xt
open PySem PySem.Spec PyProof.Rows L2 Wr Pg
theorem snoc2 {α : Type} (l : List α) (h : l ≠ []) : ∃ t x, l = t ++ [x] := snoc_of l h
def OkL (L : List Nat) : Prop := L.length ≤ 10000 ∧ ∀ c ∈ L, c < 0x110000
end Xt
set_option Elab.async false
set_option linter.all false
set_option maxRecDepth 100000
set_option maxHeartbeats 4000000
set_option autoImplicit false
namespace Xt
open PySem PySem.Spec PyProof.Rows L2 Wr Pg
def bl6 (b : B6) : List Va := [.int b.a, .int b.b, .int b.c, .int b.d, .int b.e, .int b.f]
def sNX : Va := .str (Str.mk #[110, 111, 32, 116, 101, 120, 116])
def NM : Ob := .lst [.str (tx (nmL 0)), .str (tx (nmL 1)), .str (tx (nmL 2)), .str (tx (nmL 3)), .str (tx (nmL 4)), .str (tx (nmL 5))]
def HQ (b : B6) : Hs := [.lst [.int 0], .lst (bl6 b), W6', .lst [.str (tx [97]), .str (tx [98]), .str (tx [99])], .lst [.str (tx [97]), .str (tx [99]), .str (tx [98])], .lst [.str (tx [98]), .str (tx [97]), .str (tx [99])], .lst [.str (tx [98]), .str (tx [99]), .str (tx [97])], .lst [.str (tx [99]), .str (tx [97]), .str (tx [98])], .lst [.str (tx [99]), .str (tx [98]), .str (tx [97])], NM]
theorem eqv_s (a b : List Nat) : PyData.eqv (.str (tx a)) (.str (tx b)) = decide (a = b) := by
  simp only [PyData.eqv]
  rw [show ((tx a == tx b) = decide (a = b)) from by
    by_cases e : a = b
    · rw [decide_eq_true e, e]; simp
    · rw [decide_eq_false e]
      simp [tx_inj, e]]
theorem td_NM (h : Hs) (n : Nat) {r : Nat} (hr : h[r]? = some NM) : toD h (n + 2) (.ref r) = some (.list [.str (tx (nmL 0)), .str (tx (nmL 1)), .str (tx (nmL 2)), .str (tx (nmL 3)), .str (tx (nmL 4)), .str (tx (nmL 5))]) := by
  have k : ∀ i < 6, toD h (n + 1) (.str (tx (nmL i))) = some (.str (tx (nmL i))) := fun i hi => toD_str _ _ _ (tx_ok fun c hc => by have := (nm_no i).2 c hc; omega)
  rw [u_tdR, hr]
  unfold NM
  rw [u_tdL, u_tdS1, u_tdS1, u_tdS1, u_tdS1, u_tdS1, u_tdS1, k 0 (by omega), k 1 (by omega), k 2 (by omega), k 3 (by omega), k 4 (by omega), k 5 (by omega)]
  rfl
theorem notIn_nm {m : List Nat} (hm : ∀ c ∈ m, c < 0x110000) {h : Hs} {r : Nat} (hr : h[r]? = some NM) : kNotIn (.str (tx m)) (.ref r) h = some (.bl (!(nmI m).isSome), h) := by
  have e : ([PyData.str (tx (nmL 0)), .str (tx (nmL 1)), .str (tx (nmL 2)), .str (tx (nmL 3)), .str (tx (nmL 4)), .str (tx (nmL 5))].any fun z => PyData.eqv z (.str (tx m))) = (nmI m).isSome := by
    simp only [List.any_cons, List.any_nil, eqv_s, Bool.or_false]
    cases hk : nmI m with
    | none =>
      have n := nmI_none hk
      simp only [decide_eq_false (Ne.symm (n 0 (by omega))), decide_eq_false (Ne.symm (n 1 (by omega))), decide_eq_false (Ne.symm (n 2 (by omega))), decide_eq_false (Ne.symm (n 3 (by omega))), decide_eq_false (Ne.symm (n 4 (by omega))), decide_eq_false (Ne.symm (n 5 (by omega)))]
      rfl
    | some k =>
      obtain ⟨k6, e⟩ := nmI_some hk
      subst e
      rcases lt6 k6 with rfl | rfl | rfl | rfl | rfl | rfl <;> decide +kernel
  unfold kNotIn inD
  rw [toD_str _ _ _ (tx_ok hm), td_NM h 7 hr]
  simp only [e, Option.map_some]
theorem idx_nm {k : Nat} (hk : k < 6) {h : Hs} {r : Nat} (hr : h[r]? = some NM) : kIndexL (.ref r) [.str (tx (nmL k))] h = some (.int (k : Nat), h) := by
  have e3 : ∀ k < 6, findD (.str (tx (nmL k))) [PyData.str (tx (nmL 0)), .str (tx (nmL 1)), .str (tx (nmL 2)), .str (tx (nmL 3)), .str (tx (nmL 4)), .str (tx (nmL 5))] = some k := by decide +kernel
  unfold kIndexL kIndex
  simp only [toD_str 9 _ h (tx_ok fun c hc => by have := (nm_no k).2 c hc; omega), td_NM h 7 hr, e3 k hk, Option.map_some]
end Xt
set_option Elab.async false
set_option linter.all false
set_option maxRecDepth 100000
set_option maxHeartbeats 4000000
set_option autoImplicit false
namespace Xt
open PySem PySem.Spec PyProof.Rows L2 Wr Pg
theorem m_of {k : KM} {T : String} {fo : De} {fa : Da} {s : Sg} {h h1 h2 h3 : Hs} {o v : Va} {vs : List Va} (eo : fo s h = .ok o h1) (ty : isTy T o h1 = true) (ea : fa s h1 = .ok vs h2) (ek : k o vs h2 = some (v, h3)) : dM T k fo fa s h = .ok v h3 := by
  unfold dM
  rw [eo]
  simp only [Rs.bind, ty, if_true, ea, ek]
  rfl
theorem tdS_tx (h : Hs) (n : Nat) : ∀ ss : List (List Nat), (∀ w ∈ ss, ∀ c ∈ w, c < 0x110000) → mapO (toD h n) (sL ss) = some (ss.map fun w => PyData.str (tx w))
  | [], _ => rfl
  | w :: ss, hk => by
    have e1 : toD h n (.str (tx w)) = some (.str (tx w)) := toD_str n (tx w) h (tx_ok (hk w (by simp)))
    have ih := tdS_tx h n ss fun u hu => hk u (by simp [hu])
    show mapO (toD h n) (.str (tx w) :: sL ss) = _
    simp only [mapO, e1, ih]
    rfl
def hq (b : B6) (A I : List Va) : Hs := HQ b ++ [.lst A, .lst I]
end Xt
set_option Elab.async false
set_option linter.all false
set_option maxRecDepth 100000
set_option maxHeartbeats 4000000
set_option autoImplicit false
namespace Xt
open PySem PySem.Spec PyProof.Rows L2 Wr Pg
end Xt
set_option Elab.async false
set_option linter.all false
set_option maxRecDepth 100000
set_option maxHeartbeats 4000000
set_option autoImplicit false
namespace Wr
open PySem PySem.Spec PyProof.Rows L2
end Wr
namespace Pg
open PySem PySem.Spec PyProof.Rows L2 Wr
end Pg
set_option Elab.async false
set_option linter.all false
set_option maxRecDepth 100000
set_option maxHeartbeats 4000000
set_option autoImplicit false
namespace Wr
open PySem PySem.Spec PyProof.Rows L2
end Wr
namespace Pg
open PySem PySem.Spec PyProof.Rows L2 Wr
end Pg
set_option Elab.async false
set_option linter.all false
set_option maxRecDepth 100000
set_option maxHeartbeats 4000000
set_option autoImplicit false
namespace Wr
open PySem PySem.Spec PyProof.Rows L2
end Wr
namespace Pg
open PySem PySem.Spec PyProof.Rows L2 Wr
abbrev L3 : List Va := [.int 0, .int 1, .int 2]
abbrev SS (at_ : Int) (v : Va) (a b c d e f : Option Va) : Sg := [some .scr, some (.int at_), some v, a, b, c, d, e, f]
end Pg
set_option Elab.async false
set_option linter.all false
set_option maxRecDepth 100000
set_option maxHeartbeats 4000000
set_option autoImplicit false
namespace Pg
open PySem PySem.Spec PyProof.Rows L2 Wr
def C14 : List Va := [.int 0, .int 1, .int 9, .int 10, .int 99, .int 100, .int (-1), .bl true, .non, .str (Str.mk #[49]), sDu, .tup [sDu], .tup [], .tup [.int 0, .int 1, .int 2]]
def C17 (x : Va) : List Va := C14 ++ [.ref 2, .tup [x], .tup [x, x]]
section
variable (ns : List Int) (at_ : Int) (v : Va)
abbrev H4 (PS : List Va) (x : Va) : Hs := [.lst PS, .lst (C17 x), .lst L3, .lst [.ref 2, .tup [x], .tup [x, x]]]
end
end Pg
set_option Elab.async false
set_option linter.all false
set_option maxRecDepth 100000
set_option maxHeartbeats 4000000
set_option autoImplicit false
namespace Pg
open PySem PySem.Spec PyProof.Rows L2 Wr
end Pg
set_option Elab.async false
set_option linter.all false
set_option maxRecDepth 100000
set_option maxHeartbeats 4000000
set_option autoImplicit false
namespace Wr
open PySem PySem.Spec PyProof.Rows L2
end Wr
namespace Pg
open PySem PySem.Spec PyProof.Rows L2 Wr
end Pg
set_option Elab.async false
set_option linter.all false
set_option maxRecDepth 100000
set_option maxHeartbeats 4000000
set_option autoImplicit false
namespace Pg
open PySem PySem.Spec PyProof.Rows L2 Wr
abbrev S5 (v : Va) (k : Int) (a b c : Option Va) : Sg := [some v, some (.int k), a, b, c]
end Pg
set_option Elab.async false
set_option linter.all false
set_option maxRecDepth 100000
set_option maxHeartbeats 4000000
set_option autoImplicit false
namespace Pg
open PySem PySem.Spec PyProof.Rows L2 Wr
end Pg
set_option Elab.async false
set_option linter.all false
set_option maxRecDepth 100000
set_option maxHeartbeats 4000000
set_option autoImplicit false
namespace Pg
open PySem PySem.Spec PyProof.Rows L2 Wr
end Pg
set_option Elab.async false
set_option linter.all false
set_option maxRecDepth 100000
set_option maxHeartbeats 4000000
set_option autoImplicit false
namespace Pg
open PySem PySem.Spec PyProof.Rows L2 Wr
end Pg
set_option Elab.async false
set_option linter.all false
set_option maxRecDepth 100000
set_option maxHeartbeats 4000000
set_option autoImplicit false
namespace Xt
open PySem PySem.Spec PyProof.Rows L2 Wr Pg
theorem sumLen_tx : ∀ ls : List (List Nat), sumLen (ls.map tx) = ls.flatten.length
  | [] => rfl
  | l :: ls => by
    show (tx l).length + sumLen (ls.map tx) = _
    rw [sumLen_tx ls, tx_len, List.flatten_cons, List.length_append]
theorem kJoin_g {s : List Nat} {ls : List (List Nat)} {r : Nat} {h : Hs} {z : List Nat} (hr : h[r]? = some (.lst (sL ls))) (hl : ls.flatten.length + ls.length * s.length ≤ 100000) (e : Txt.join (tx s) (ls.map tx) = tx z) : kJoin (.str (tx s)) [.ref r] h = some (.str (tx z), h) := by
  have jn : okN (sumLen (ls.map tx) + (ls.map tx).length * (tx s).length) = true := by
    refine decide_eq_true ?_
    rw [sumLen_tx, List.length_map, tx_len]
    omega
  have hs : strsOf (sL ls) = some (ls.map tx) := by rw [← sL_map]; exact Pg.strsOf_map _
  unfold kJoin
  simp only [hr, hs, jn, if_true, e]
theorem ret_of {f : De} {s : Sg} {h h1 : Hs} {v : Va} (e : f s h = .ok v h1) : dRet f s h = .rt v h1 := by
  unfold dRet
  rw [e]
  rfl
theorem rt_seq {f k : Ds} {s : Sg} {h h1 : Hs} {v : Va} (e : f s h = .rt v h1) : dSeq f k s h = .rt v h1 := by
  unfold dSeq
  rw [e]
end Xt
set_option Elab.async false
set_option linter.all false
set_option maxRecDepth 100000
set_option maxHeartbeats 4000000
set_option autoImplicit false
namespace Xt
open PySem PySem.Spec PyProof.Rows L2 Wr Pg
abbrev PS := List (List Nat) × List Nat × Int
end Xt
set_option Elab.async false
set_option linter.all false
set_option maxRecDepth 100000
set_option maxHeartbeats 4000000
set_option autoImplicit false
namespace Xt
open PySem PySem.Spec PyProof.Rows L2 Wr Pg
theorem cutS_tx (w : List Nat) (lo hi : Option Int) : L2.cutS (tx w) lo hi = tx (cutA w lo hi) := rfl
theorem kSl_tx (w : List Nat) (hl : w.length ≤ 100000) (lo hi : Option Int) (h : Hs) : kSl (.str (tx w)) lo hi h = .ok (.str (tx (cutA w lo hi))) h := by
  rw [u_slS _ _ _ _ (by rw [tx_len]; omega), cutS_tx]
theorem sl_o {f : De} {fl fh : Dp'} {s : Sg} {h h1 h2 h3 : Hs} {x : Va} {lo hi : Option Int} {r : Rs Va} (e : f s h = .ok x h1) (el : fl s h1 = .ok lo h2) (eh : fh s h2 = .ok hi h3) (er : kSl x lo hi h3 = r) : dSl f fl fh s h = r := by
  unfold dSl
  rw [e]
  simp only [Rs.bind, el, eh]
  exact er
theorem eqInt (i j : Int) (h : Hs) : kEq (.int i) (.int j) h = some (.bl (decide (i = j)), h) := by rw [u_eq, toD_int, toD_int, u_eq2t, eqv_int]
theorem sL_app (a b : List (List Nat)) : sL (a ++ b) = sL a ++ sL b := by simp [sL]
theorem refsO_sL (a : List (List Nat)) : refsO (.lst (sL a)) = [] := refs_sL a
end Xt
set_option Elab.async false
set_option linter.all false
set_option maxRecDepth 100000
set_option maxHeartbeats 4000000
set_option autoImplicit false
namespace Yp
open PySem PySem.Spec PyProof.Rows L2 Wr Pg Xt
theorem forC_foldI {σ α : Type} {n0 : Nat} {live : List Nat} {it : It'} {t : Tg} {body : Ds} (st : σ → Sg) (hp : σ → Hs) (xs : List α) (val : α → Va) (f : σ → α → Option σ) (Inv : Nat → σ → Prop) (Z : RS → Prop) (hZ : ∀ r, Z r → Stops r)
    (hx : ∀ j s, j ≤ xs.length → nxt it j (hp s) = some (xs[j]?.map val))
    (step : ∀ j s x, xs[j]? = some x → Inv j s → ∃ s1, setT t (val x) (st s) (hp s) = some s1 ∧ ((∃ s', f s x = some s' ∧ Inv (j + 1) s' ∧ ∃ s2 h2, body s1 (hp s) = .nx s2 h2 ∧ cleanS n0 live s2 h2 = some (st s', hp s')) ∨ (f s x = none ∧ Z (body s1 (hp s))))) :
    ∀ (k j : Nat) (s : σ) (s0 : Sg) (h0 : Hs), j + k = xs.length + 1 → 0 < k → Inv j s → cleanS n0 live s0 h0 = some (st s, hp s) →
      (∃ s', (xs.drop j).foldlM f s = some s' ∧ Inv xs.length s' ∧ forC n0 live it t body k j s0 h0 = .nx (st s') (hp s')) ∨ ((xs.drop j).foldlM f s = none ∧ Z (forC n0 live it t body k j s0 h0))
  | 0, _, _, _, _, _, z, _, _ => absurd z (Nat.lt_irrefl 0)
  | k + 1, j, s, s0, h0, e, _, hi, hc => by
    rw [u_forS, hc, u_fA, hx j s (by omega)]
    by_cases hj : j < xs.length
    · obtain ⟨s1, q1, q2⟩ := step j s xs[j] (List.getElem?_eq_getElem hj) hi
      rw [List.getElem?_eq_getElem hj, Option.map_some, u_fB1, q1, u_fC, List.drop_eq_getElem_cons hj]
      rcases q2 with ⟨s', g1, gi, s2, h2, g2, g3⟩ | ⟨g1, g2⟩
      · rw [g2, u_con1]
        have := forC_foldI st hp xs val f Inv Z hZ hx step k (j + 1) s' s2 h2 (by omega) (by omega) gi g3
        rw [List.foldlM_cons, g1]
        exact this
      · right
        rw [List.foldlM_cons, g1]
        refine ⟨rfl, ?_⟩
        generalize hr : body s1 (hp s) = r at g2
        rcases hZ r g2 with ⟨c, s3, h3, rfl⟩ | ⟨v, h3, rfl⟩
        · exact g2
        · exact g2
    · have e2 : j = xs.length := by omega
      subst e2
      left
      rw [List.getElem?_eq_none (Nat.le_refl _), List.drop_length]
      exact ⟨s, rfl, hi, rfl⟩
def jn (c : Nat) : List (List Nat) → List Nat
  | [] => []
  | [w] => w
  | w :: v :: t => w ++ c :: jn c (v :: t)
theorem jn_spl (c : Nat) : ∀ (l acc : List Nat), jn c (splA c acc l) = acc ++ l
  | [], acc => by simp [splA, jn]
  | x :: t, acc => by
    unfold splA
    split
    · rename_i e
      have ih := jn_spl c t []
      cases h : splA c [] t with
      | nil => exact absurd h (splA_ne c t [])
      | cons a b =>
        rw [h] at ih
        show acc ++ c :: jn c (a :: b) = _
        rw [ih, e]
        rfl
    · rw [jn_spl c t]
      simp
theorem jn_lines (c : Nat) : ∀ ls : List (List Nat), jn c (ls ++ [[]]) = ls.flatMap fun l => l ++ [c]
  | [] => rfl
  | [w] => by simp [jn]
  | w :: v :: t => by
    have ih := jn_lines c (v :: t)
    show w ++ c :: jn c ((v :: t) ++ [[]]) = _
    rw [ih]
    simp
def parse (l : List Nat) : Option Dd := match splA 32 [] l with
  | [w, m] => match nmI m with
    | some k => if w = [43] then some (.add k) else if w = [45] then some (.drop k) else (nmI w).map fun n => .chg n k
    | none => none
  | _ => none
theorem parse_ln {l : List Nat} {d : Dd} (h : parse l = some d) : l = d.ln ∧ d.ok6 := by
  have j := jn_spl 32 l []
  rw [List.nil_append] at j
  unfold parse at h
  split at h
  · rename_i w m es
    rw [es] at j
    have j : w ++ 32 :: m = l := j
    split at h
    · rename_i k hk
      obtain ⟨k6, em⟩ := nmI_some hk
      subst em
      split at h
      · rename_i ew
        cases h
        exact ⟨by rw [← j, ew]; rfl, k6⟩
      · split at h
        · rename_i ew
          cases h
          exact ⟨by rw [← j, ew]; rfl, k6⟩
        · obtain ⟨n, hn, e⟩ := Option.map_eq_some_iff.mp h
          cases e
          obtain ⟨n6, ew⟩ := nmI_some hn
          exact ⟨by rw [← j, ew]; rfl, n6, k6⟩
    · cases h
  · cases h
theorem nmI_nm : ∀ k < 6, nmI (nmL k) = some k := by decide +kernel
theorem ln_parse (d : Dd) (h : d.ok6) : parse d.ln = some d := by
  have sp : splA 32 [] d.ln = (match d with | .add k => [[43], nmL k] | .drop k => [[45], nmL k] | .chg n k => [nmL n, nmL k]) := by
    have hs : ∀ n, splA 32 [] (nmL n) = [nmL n] := fun n => splA_no 32 _ _ (nm_no n).1.2
    cases d with
    | add n =>
      show splA 32 [] ([43] ++ 32 :: nmL n) = _
      rw [splA_app 32 [43] _ _ (by decide), hs]; rfl
    | drop n =>
      show splA 32 [] ([45] ++ 32 :: nmL n) = _
      rw [splA_app 32 [45] _ _ (by decide), hs]; rfl
    | chg n o =>
      show splA 32 [] (nmL n ++ 32 :: nmL o) = _
      rw [splA_app 32 (nmL n) _ _ (nm_no n).1.2, hs]; rfl
  unfold parse
  rw [sp]
  cases d with
  | add k =>
    have hk : k < 6 := h
    show (match nmI (nmL k) with | some k => if [43] = [43] then some (Dd.add k) else _ | none => none) = _
    rw [nmI_nm k hk]
    rfl
  | drop k =>
    have hk : k < 6 := h
    show (match nmI (nmL k) with | some k => if [45] = [43] then _ else if [45] = [45] then some (Dd.drop k) else _ | none => none) = _
    rw [nmI_nm k hk]
    rfl
  | chg n k =>
    obtain ⟨hn, hk⟩ : n < 6 ∧ k < 6 := h
    show (match nmI (nmL k) with | some k => if nmL n = [43] then some (Dd.add k) else if nmL n = [45] then some (Dd.drop k) else (nmI (nmL n)).map fun n => Dd.chg n k | none => none) = _
    have n1 : nmL n ≠ [43] := fun e => by have := congrArg List.length e; rw [nm_len] at this; simp at this
    have n2 : nmL n ≠ [45] := fun e => by have := congrArg List.length e; rw [nm_len] at this; simp at this
    rw [nmI_nm k hk]
    simp only [if_neg n1, if_neg n2, nmI_nm n hn]
    rfl
def go (s : Zl × B6) (l : List Nat) : Option (Zl × B6) := match parse l with
  | some d => if d.no s.2 then none else some (s.1 ++ [(d, s.2)], d.to s.2)
  | none => none
def runT (ls : List (List Nat)) : Option (Zl × B6) := ls.foldlM go ([], zb0)
theorem go_ln {s s' : Zl × B6} {l : List Nat} (h : go s l = some s') : ∃ d, parse l = some d ∧ ¬ d.no s.2 ∧ s' = (s.1 ++ [(d, s.2)], d.to s.2) := by
  unfold go at h
  split at h
  · rename_i d hd
    split at h
    · cases h
    · cases h
      exact ⟨d, hd, ‹_›, rfl⟩
  · cases h
/-- the lines are the steps' -/
theorem run_lines : ∀ (ls : List (List Nat)) (s s' : Zl × B6), ls.foldlM go s = some s' → s'.1.map (·.1.ln) = s.1.map (·.1.ln) ++ ls
  | [], s, s', h => by cases h; simp
  | l :: ls, s, s', h => by
    rw [List.foldlM_cons] at h
    cases e : go s l with
    | none => rw [e] at h; cases h
    | some s1 =>
      rw [e] at h
      obtain ⟨d, h1, _, rfl⟩ := go_ln e
      have := run_lines ls _ s' h
      rw [this]
      simp [(parse_ln h1).1]
end Yp
set_option Elab.async false
set_option linter.all false
set_option maxRecDepth 100000
set_option maxHeartbeats 4000000
set_option autoImplicit false
namespace Yp
open PySem PySem.Spec PyProof.Rows L2 Wr Pg Xt
theorem inTxL {m : List Nat} {ss : List (List Nat)} (hm : ∀ c ∈ m, c < 0x110000) (hs : ∀ w ∈ ss, ∀ c ∈ w, c < 0x110000) {h : Hs} {r : Nat} (hr : h[r]? = some (.lst (sL ss))) : kNotIn (.str (tx m)) (.ref r) h = some (.bl (!decide (m ∈ ss)), h) := by
  have e1 : toD h 9 (.str (tx m)) = some (.str (tx m)) := toD_str 9 _ h (tx_ok hm)
  have e2 : toD h 9 (.ref r) = some (.list (ss.map fun w => PyData.str (tx w))) := by
    show (match h[r]? with | some (.lst xs) => (mapO (toD h 8) xs).map PyData.list | _ => none) = _
    rw [hr]
    show (mapO (toD h 8) (sL ss)).map PyData.list = _
    rw [tdS_tx h 8 ss hs]
    rfl
  have e3 : ((ss.map fun w => PyData.str (tx w)).any fun z => PyData.eqv z (.str (tx m))) = decide (m ∈ ss) := by
    rw [Bool.eq_iff_iff, List.any_eq_true, decide_eq_true_eq]
    constructor
    · rintro ⟨z, hz, q⟩
      obtain ⟨w, hw, rfl⟩ := List.mem_map.mp hz
      rw [eqv_s, decide_eq_true_eq] at q
      rw [← q]
      exact hw
    · intro hm
      exact ⟨_, List.mem_map.mpr ⟨m, hm, rfl⟩, by rw [eqv_s, decide_eq_true_eq]⟩
  unfold kNotIn inD
  simp only [e1, e2, e3, Option.map_some]
theorem notIn57 (n : Nat) (h : Hs) : kNotIn (.int (n : Nat)) (.tup [.int 5, .int 7]) h = some (.bl (!decide (n = 5 ∨ n = 7)), h) := by
  have e2 : toD h 9 (.tup [.int 5, .int 7]) = some (.tuple [.int 5, .int 7]) := rfl
  unfold kNotIn inD
  simp only [toD_int, e2, List.any_cons, List.any_nil, eqv_int, Bool.or_false, Option.map_some]
  congr 4
  rw [Bool.eq_iff_iff]
  simp only [Bool.or_eq_true, decide_eq_true_eq]
  omega
theorem cut_toN {α : Type} (xs : List α) (k : Nat) (hk : 0 < k) (h : k ≤ xs.length) : cutA xs none (some (-(k : Int))) = xs.take (xs.length - k) := by
  unfold cutA
  have e : HT.sIx xs.length xs.length (some (-(k : Int))) = xs.length - k := by
    unfold HT.sIx
    simp [hk]
    omega
  rw [HT.sIx_none, e, List.drop_zero, Nat.sub_zero]
theorem cut_frN {α : Type} (xs : List α) (k : Nat) (hk : 0 < k) (h : k ≤ xs.length) : cutA xs (some (-(k : Int))) none = xs.drop (xs.length - k) := by
  unfold cutA
  have e : HT.sIx xs.length 0 (some (-(k : Int))) = xs.length - k := by
    unfold HT.sIx
    simp [hk]
    omega
  rw [HT.sIx_none, e, List.take_of_length_le (by simp)]
theorem ix_4 {l : List Nat} (h1 : 4 ≤ l.length) (hl : l.length ≤ 100000) (h : Hs) : ∃ c, l[l.length - 4]? = some c ∧ kIxU (.str (tx l)) (.int (-4)) h = some (.str (tx [c]), h) := by
  have hc : l[l.length - 4]? = some l[l.length - 4] := List.getElem?_eq_getElem (by omega)
  refine ⟨_, hc, ?_⟩
  rw [u_ixS _ _ _ (by rw [tx_len]; omega)]
  have : L2.atI (tx l).cps.toList (-4) = some l[l.length - 4] := by
    show L2.atI l (-4) = _
    unfold L2.atI L2.ixN
    rw [if_neg (by omega), if_pos (by omega)]
    show l[(-4 + (l.length : Int)).toNat]? = _
    rw [show (-4 + (l.length : Int)).toNat = l.length - 4 by omega]
    exact hc
  rw [this]
  rfl
def hCl (x : List Va) (A I : List Va) : Hs := [W6', .lst [.str (tx [97]), .str (tx [98]), .str (tx [99])], .lst [.str (tx [97]), .str (tx [99]), .str (tx [98])], .lst [.str (tx [98]), .str (tx [97]), .str (tx [99])], .lst [.str (tx [98]), .str (tx [99]), .str (tx [97])], .lst [.str (tx [99]), .str (tx [97]), .str (tx [98])], .lst [.str (tx [99]), .str (tx [98]), .str (tx [97])], NM, .lst [.int 0], .lst x, .lst A, .lst I]
abbrev hC (b : B6) (A I : List Va) : Hs := hCl b.l A I
abbrev Sc (v6 v7 v8 v9 : Option Va) : Sg := [none, some (.ref 7), none, none, some (.ref 9), some (.ref 10), v6, v7, v8, v9]
abbrev cbT : Dt := (dOr (dTest (dOp kNotIn (dB kLen (aCons (dVar 6) aNil)) (dTup (aCons (dC (.int 5)) (aCons (dC (.int 7)) aNil))))) (dOr (dTest (dOp kNe (dOp kIxU (dVar 6) (dNeg (dC (.int 4)))) (dC (.str (Str.mk #[32]))))) (dTest (dOp kNotIn (dSl (dVar 6) (oSome (dNeg (dC (.int 3)))) oNone) (dVar 1)))))
abbrev cb1 : Ds := dIfS cbT (dRet (dC (.bl false))) dNx
abbrev cb2 : Ds := (dPar [7, 8] (aCons (dSl (dVar 6) oNone (oSome (dNeg (dC (.int 4))))) (aCons (dM2 "tuple" kIndexT "list" kIndexL (dVar 1) (aCons (dSl (dVar 6) (oSome (dNeg (dC (.int 3)))) oNone) aNil)) aNil)))
abbrev cb3 : Ds := (dIfS (dTest (dOp kNotIn (dVar 7) (dOp kAdd (dLst (aCons (dC (.str (Str.mk #[43]))) (aCons (dC (.str (Str.mk #[45]))) aNil))) (dVar 1)))) (dRet (dC (.bl false))) dNx)
abbrev cb4 : Ds := (dIfS (dTest (dOp kNe (dVar 7) (dC (.str (Str.mk #[43]))))) (dSeq (dSet 9 (dIf (dTest (dOp kEq (dVar 7) (dC (.str (Str.mk #[45]))))) (dVar 8) (dM2 "tuple" kIndexT "list" kIndexL (dVar 1) (aCons (dVar 7) aNil))))
    (dSeq (dIfS (dTest (dOp kEq (dOp kIxU (dVar 4) (dVar 9)) (dC (.int 0)))) (dRet (dC (.bl false))) dNx)
    (dPutK kPut (dVar 4) (dVar 9) (dOp kSub (dOp kIxU (dVar 4) (dVar 9)) (dC (.int 1)))))) dNx)
abbrev cb5 : Ds := (dPutK kPut (dVar 4) (dVar 8) (dOp kAdd (dOp kIxU (dVar 4) (dVar 8)) (dB kInt (aCons (dOp kNe (dVar 7) (dC (.str (Str.mk #[45])))) aNil))))
abbrev cbB : Ds := dSeq cb1 (dSeq cb2 (dSeq cb3 (dSeq cb4 cb5)))
/-- what the law looks at -/
def c1 (l : List Nat) : Bool := decide (l.length = 5 ∨ l.length = 7) && (decide (l[l.length - 4]? = some 32) && (nmI (l.drop (l.length - 3))).isSome)
theorem nm_lt (k : Nat) : ∀ c ∈ nmL k, c < 0x110000 := fun c hc => by have := (nm_no k).2 c hc; omega
theorem cbT_ok {l : List Nat} (hl : l.length ≤ 10000) (hc : ∀ c ∈ l, c < 0x110000) (b : B6) (A I : List Va) : cbT (Sc (some (.str (tx l))) none none none) (hC b A I) = .ok (!c1 l) (hC b A I) := by
  have t1 : dTest (dOp kNotIn (dB kLen (aCons (dVar 6) aNil)) (dTup (aCons (dC (.int 5)) (aCons (dC (.int 7)) aNil)))) (Sc (some (.str (tx l))) none none none) (hC b A I) = .ok (!decide (l.length = 5 ∨ l.length = 7)) (hC b A I) := tst_of (op_of (b_of (arg_of (v := .str (tx l)) rfl arg_nil) (by rw [u_lenS _ _ (by rw [tx_len]; omega), tx_len])) rfl (notIn57 _ _))
  unfold c1
  by_cases h1 : l.length = 5 ∨ l.length = 7
  · rw [decide_eq_true h1] at t1 ⊢
    obtain ⟨c, g, e⟩ := ix_4 (l := l) (by omega) (by omega) (hC b A I)
    have cl : c < 0x110000 := hc c (List.mem_of_getElem? g)
    have t2 : dTest (dOp kNe (dOp kIxU (dVar 6) (dNeg (dC (.int 4)))) (dC (.str (Str.mk #[32])))) (Sc (some (.str (tx l))) none none none) (hC b A I) = .ok (!decide (l[l.length - 4]? = some 32)) (hC b A I) := by
      refine tst_of (op_of (op_of (x := .str (tx l)) (y := .int (-4)) rfl rfl e) (show dC _ _ _ = .ok (.str (tx [32])) _ from rfl) ?_)
      rw [ne_tx (fun x hx => by rw [List.mem_singleton.mp hx]; exact cl) (by simp), g]
      congr 4
      simp
    have sl : dSl (dVar 6) (oSome (dNeg (dC (.int 3)))) oNone (Sc (some (.str (tx l))) none none none) (hC b A I) = .ok (.str (tx (l.drop (l.length - 3)))) (hC b A I) := by
      refine sl_o (x := .str (tx l)) (lo := some (-((3 : Nat) : Int))) (hi := none) rfl rfl rfl ?_
      rw [kSl_tx l (by omega), cut_frN l 3 (by omega) (by omega)]
    have t3 : dTest (dOp kNotIn (dSl (dVar 6) (oSome (dNeg (dC (.int 3)))) oNone) (dVar 1)) (Sc (some (.str (tx l))) none none none) (hC b A I) = .ok (!(nmI (l.drop (l.length - 3))).isSome) (hC b A I) := tst_of (op_of sl (var_of (v := .ref 7) rfl) (notIn_nm (fun x hx => hc x (List.mem_of_mem_drop hx)) rfl))
    by_cases h2 : l[l.length - 4]? = some 32
    · rw [decide_eq_true h2] at t2 ⊢
      refine (or_f t1).trans ((or_f t2).trans (t3.trans ?_))
      simp
    · rw [decide_eq_false h2] at t2 ⊢
      exact (or_f t1).trans (or_t t2)
  · rw [decide_eq_false h1] at t1 ⊢
    exact or_t t1
/-- what it looks at tells the line -/
theorem c1_line {l : List Nat} (h : c1 l = true) : ∃ k, k < 6 ∧ 4 ≤ l.length ∧ l.drop (l.length - 3) = nmL k ∧ l = l.take (l.length - 4) ++ 32 :: nmL k := by
  unfold c1 at h
  simp only [Bool.and_eq_true, decide_eq_true_eq] at h
  obtain ⟨h1, h2, h3⟩ := h
  obtain ⟨k, hk⟩ := Option.isSome_iff_exists.mp h3
  obtain ⟨k6, e⟩ := nmI_some hk
  refine ⟨k, k6, by omega, e, ?_⟩
  have h4 : l.length - 4 < l.length := by omega
  have e5 : l.drop (l.length - 4) = 32 :: l.drop (l.length - 3) := by
    rw [List.drop_eq_getElem_cons h4]
    rw [List.getElem?_eq_getElem h4] at h2
    rw [Option.some.inj h2, show l.length - 4 + 1 = l.length - 3 by omega]
  rw [← e, ← e5, List.take_append_drop]
def hds : List (List Nat) := [[43], [45]] ++ [nmL 0, nmL 1, nmL 2, nmL 3, nmL 4, nmL 5]
/-- of a line that is none, the law tells False -/
theorem parse_of {l : List Nat} {k : Nat} (hk : k < 6) (e : l = l.take (l.length - 4) ++ 32 :: nmL k) (hh : l.take (l.length - 4) ∈ hds) : ∃ d, parse l = some d := by
  generalize l.take (l.length - 4) = w at *
  have key : ∀ d : Dd, d.ok6 → l = d.ln → ∃ d, parse l = some d := fun d h6 el => ⟨d, by rw [el]; exact ln_parse d h6⟩
  simp only [hds, List.cons_append, List.nil_append, List.mem_cons, List.not_mem_nil, or_false] at hh
  rcases hh with rfl | rfl | rfl | rfl | rfl | rfl | rfl | rfl
  · exact key (.add k) hk e
  · exact key (.drop k) hk e
  · exact key (.chg 0 k) ⟨by omega, hk⟩ e
  · exact key (.chg 1 k) ⟨by omega, hk⟩ e
  · exact key (.chg 2 k) ⟨by omega, hk⟩ e
  · exact key (.chg 3 k) ⟨by omega, hk⟩ e
  · exact key (.chg 4 k) ⟨by omega, hk⟩ e
  · exact key (.chg 5 k) ⟨by omega, hk⟩ e
def Dd.hd : Dd → List Nat
  | .add _ => [43]
  | .drop _ => [45]
  | .chg n _ => nmL n
def Dd.tl : Dd → Nat
  | .add k => k
  | .drop k => k
  | .chg _ k => k
theorem ln_ht (d : Dd) : d.ln = Dd.hd d ++ 32 :: nmL (Dd.tl d) := by cases d <;> rfl
theorem ln_take (d : Dd) : d.ln.take (d.ln.length - 4) = Dd.hd d ∧ d.ln.drop (d.ln.length - 3) = nmL (Dd.tl d) ∧ (d.ln.length = 5 ∨ d.ln.length = 7) ∧ d.ln[d.ln.length - 4]? = some 32 := by
  have hl := nm_len (Dd.tl d)
  have hh : (Dd.hd d).length = 1 ∨ (Dd.hd d).length = 3 := by cases d <;> simp [Dd.hd, nm_len]
  have el : d.ln.length = (Dd.hd d).length + 4 := by rw [ln_ht]; simp [hl]
  rw [el, ln_ht]
  refine ⟨?_, ?_, by omega, ?_⟩
  · rw [show (Dd.hd d).length + 4 - 4 = (Dd.hd d).length by omega, List.take_left]
  · rw [show (Dd.hd d).length + 4 - 3 = (Dd.hd d ++ [32]).length by simp, show Dd.hd d ++ 32 :: nmL (Dd.tl d) = (Dd.hd d ++ [32]) ++ nmL (Dd.tl d) by simp, List.drop_left]
  · rw [show (Dd.hd d).length + 4 - 4 = (Dd.hd d).length by omega, List.getElem?_append_right (Nat.le_refl _), Nat.sub_self]
    rfl
theorem hd_in (d : Dd) (h : d.ok6) : Dd.hd d ∈ hds := by
  cases d with
  | add n => simp [Dd.hd, hds]
  | drop n => simp [Dd.hd, hds]
  | chg n o =>
    have hn : n < 6 := h.1
    rcases lt6 hn with rfl | rfl | rfl | rfl | rfl | rfl <;> simp [Dd.hd, hds]
theorem tl_6 (d : Dd) (h : d.ok6) : Dd.tl d < 6 := by
  cases d with
  | add n => exact h
  | drop n => exact h
  | chg n o => exact h.2
theorem c1_ln (d : Dd) (h : d.ok6) : c1 d.ln = true := by
  obtain ⟨_, e2, e3, e4⟩ := ln_take d
  unfold c1
  rw [e2, decide_eq_true e3, decide_eq_true e4, nmI_nm _ (tl_6 d h)]
  rfl
end Yp
set_option Elab.async false
set_option linter.all false
set_option maxRecDepth 100000
set_option maxHeartbeats 4000000
set_option autoImplicit false
namespace Yp
open PySem PySem.Spec PyProof.Rows L2 Wr Pg Xt
theorem kPut_l {h : Hs} {r k : Nat} {l : List Va} (hr : h[r]? = some (.lst l)) (hk : k < l.length) (v : Va) : kPut (.ref r) (.int (k : Nat)) v h = some (h.set r (.lst (l.set k v))) := by
  have e1 : L2.ixN l.length ((k : Nat) : Int) = some k := by
    rw [u_ixN, if_pos (by omega), if_pos (by omega)]
    simp
  have e2 : kPutL (.ref r) (.int (k : Nat)) v h = some (h.set r (.lst (l.set k v))) := by
    show (match h[r]? with | some (.lst xs) => (L2.ixN xs.length ((k : Nat) : Int)).map fun j => h.set r (.lst (xs.set j v)) | _ => none) = _
    rw [hr]
    show ((L2.ixN l.length ((k : Nat) : Int)).map fun j => h.set r (.lst (l.set j v))) = _
    rw [e1, Option.map_some]
  unfold kPut
  rw [e2]
theorem put_of {fo fi fv : De} {s : Sg} {h h1 h2 h3 h4 : Hs} {o i v : Va} (ev : fv s h = .ok v h1) (eo : fo s h1 = .ok o h2) (ei : fi s h2 = .ok i h3) (e : kPut o i v h3 = some h4) : dPutK kPut fo fi fv s h = .nx s h4 := by
  unfold dPutK
  rw [ev]
  simp only [Rs.bindS]
  rw [eo]
  simp only [Rs.bindS]
  rw [ei]
  simp only [Rs.bindS, e]
def G2 : Hs := [.lst (sL [[43], [45]]), .lst (sL hds)]
def goB (b : B6) (l : List Nat) : Option B6 := match parse l with
  | some d => if d.no b then none else some (d.to b)
  | none => none
def RtF (r : RS) : Prop := ∃ h, r = .rt (.bl false) h
section
variable {A I : List Va} (fA : refsVs A = []) (fI : refsVs I = [])
theorem cb2_ok {l w : List Nat} {k : Nat} (hl : l.length ≤ 10000) (h4 : 4 ≤ l.length) (k6 : k < 6) (e1 : l.take (l.length - 4) = w) (e2 : l.drop (l.length - 3) = nmL k) (x : List Va) : cb2 (Sc (some (.str (tx l))) none none none) (hCl x A I) = .nx (Sc (some (.str (tx l))) (some (.str (tx w))) (some (.int (k : Nat))) none) (hCl x A I) := by
  have s1 : dSl (dVar 6) oNone (oSome (dNeg (dC (.int 4)))) (Sc (some (.str (tx l))) none none none) (hCl x A I) = .ok (.str (tx w)) (hCl x A I) := by
    refine sl_o (x := .str (tx l)) (lo := none) (hi := some (-((4 : Nat) : Int))) rfl rfl rfl ?_
    rw [kSl_tx l (by omega), cut_toN l 4 (by omega) h4, e1]
  have s2 : dSl (dVar 6) (oSome (dNeg (dC (.int 3)))) oNone (Sc (some (.str (tx l))) none none none) (hCl x A I) = .ok (.str (tx (nmL k))) (hCl x A I) := by
    refine sl_o (x := .str (tx l)) (lo := some (-((3 : Nat) : Int))) (hi := none) rfl rfl rfl ?_
    rw [kSl_tx l (by omega), cut_frN l 3 (by omega) (by omega), e2]
  have s3 : dM2 "tuple" kIndexT "list" kIndexL (dVar 1) (aCons (dSl (dVar 6) (oSome (dNeg (dC (.int 3)))) oNone) aNil) (Sc (some (.str (tx l))) none none none) (hCl x A I) = .ok (.int (k : Nat)) (hCl x A I) := by
    unfold dM2
    show ((aCons (dSl (dVar 6) (oSome (dNeg (dC (.int 3)))) oNone) aNil (Sc (some (.str (tx l))) none none none) (hCl x A I)).bind fun xs h2 => liftO (kIndexL (.ref 7) xs h2)) = _
    rw [arg_of s2 arg_nil]
    show liftO (kIndexL (.ref 7) [.str (tx (nmL k))] (hCl x A I)) = _
    rw [idx_nm k6 rfl]
    rfl
  exact par_of (arg_of s1 (arg_of s3 arg_nil))
theorem cb3_t {l w : List Nat} {k : Nat} (hw : ∀ c ∈ w, c < 0x110000) (x : List Va) : dTest (dOp kNotIn (dVar 7) (dOp kAdd (dLst (aCons (dC (.str (Str.mk #[43]))) (aCons (dC (.str (Str.mk #[45]))) aNil))) (dVar 1))) (Sc (some (.str (tx l))) (some (.str (tx w))) (some (.int (k : Nat))) none) (hCl x A I) = .ok (!decide (w ∈ hds)) (hCl x A I ++ G2) := by
  have ea : dOp kAdd (dLst (aCons (dC (.str (Str.mk #[43]))) (aCons (dC (.str (Str.mk #[45]))) aNil))) (dVar 1) (Sc (some (.str (tx l))) (some (.str (tx w))) (some (.int (k : Nat))) none) (hCl x A I) = .ok (.ref 13) (hCl x A I ++ G2) := by
    refine op_of (show dLst _ _ _ = .ok (.ref 12) (hCl x A I ++ [.lst (sL [[43], [45]])]) from rfl) (var_of (v := .ref 7) rfl) ?_
    exact addLn (r := 12) (q := 7) (xs := sL [[43], [45]]) (ys := sL [nmL 0, nmL 1, nmL 2, nmL 3, nmL 4, nmL 5]) rfl rfl (by simp [sL])
  refine tst_of (op_of (x := .str (tx w)) rfl ea (inTxL (ss := hds) hw ?_ rfl))
  intro v hv c hc
  simp only [hds, List.cons_append, List.nil_append, List.mem_cons, List.not_mem_nil, or_false] at hv
  rcases hv with rfl | rfl | rfl | rfl | rfl | rfl | rfl | rfl
  · simp at hc; omega
  · simp at hc; omega
  all_goals exact nm_lt _ c hc
/-- the wish that is taken away -/
theorem cbw {l w : List Nat} {n k : Nat} (n6 : n < 6) (b : B6) : dIfS (dTest (dOp kEq (dOp kIxU (dVar 4) (dVar 9)) (dC (.int 0)))) (dRet (dC (.bl false))) dNx (Sc (some (.str (tx l))) (some (.str (tx w))) (some (.int (k : Nat))) (some (.int (n : Nat)))) (hCl b.l A I ++ G2) = (if b.get n = 0 then .rt (.bl false) (hCl b.l A I ++ G2) else .nx (Sc (some (.str (tx l))) (some (.str (tx w))) (some (.int (k : Nat))) (some (.int (n : Nat)))) (hCl b.l A I ++ G2)) ∧
    dPutK kPut (dVar 4) (dVar 9) (dOp kSub (dOp kIxU (dVar 4) (dVar 9)) (dC (.int 1))) (Sc (some (.str (tx l))) (some (.str (tx w))) (some (.int (k : Nat))) (some (.int (n : Nat)))) (hCl b.l A I ++ G2) = .nx (Sc (some (.str (tx l))) (some (.str (tx w))) (some (.int (k : Nat))) (some (.int (n : Nat)))) (hCl (b.dec n).l A I ++ G2) := by
  have ix : dOp kIxU (dVar 4) (dVar 9) (Sc (some (.str (tx l))) (some (.str (tx w))) (some (.int (k : Nat))) (some (.int (n : Nat)))) (hCl b.l A I ++ G2) = .ok (.int (b.get n)) (hCl b.l A I ++ G2) := op_of (x := .ref 9) (y := .int (n : Nat)) rfl rfl (ixLv (i := n) (l := b.l) rfl (l_get b n n6))
  constructor
  · have t := tst_of (op_of ix (show dC (.int 0) _ _ = .ok (.int 0) _ from rfl) (eqInt (b.get n) 0 _))
    by_cases h : b.get n = 0
    · rw [decide_eq_true h] at t
      rw [if_pos h]
      exact (if_t t).trans rfl
    · rw [decide_eq_false h] at t
      rw [if_neg h]
      exact (if_f t).trans rfl
  · have e := kPut_l (h := hCl b.l A I ++ G2) (r := 9) (k := n) (l := b.l) rfl (by rw [l_len]; omega) (.int (b.get n - 1))
    rw [l_dec b n n6] at e
    exact put_of (op_of ix (show dC (.int 1) _ _ = .ok (.int 1) _ from rfl) rfl) (var_of (v := .ref 9) rfl) (var_of (v := .int (n : Nat)) rfl) e
/-- .. and one more -/
theorem cbi {l w : List Nat} {k : Nat} {v9 : Option Va} (k6 : k < 6) (hw : ∀ c ∈ w, c < 0x110000) (b : B6) : cb5 (Sc (some (.str (tx l))) (some (.str (tx w))) (some (.int (k : Nat))) v9) (hCl b.l A I ++ G2) = .nx (Sc (some (.str (tx l))) (some (.str (tx w))) (some (.int (k : Nat))) v9) (hCl (if w = [45] then b else b.inc k).l A I ++ G2) := by
  have ix : dOp kIxU (dVar 4) (dVar 8) (Sc (some (.str (tx l))) (some (.str (tx w))) (some (.int (k : Nat))) v9) (hCl b.l A I ++ G2) = .ok (.int (b.get k)) (hCl b.l A I ++ G2) := op_of (x := .ref 9) (y := .int (k : Nat)) rfl rfl (ixLv (i := k) (l := b.l) rfl (l_get b k k6))
  have en : dB kInt (aCons (dOp kNe (dVar 7) (dC (.str (Str.mk #[45])))) aNil) (Sc (some (.str (tx l))) (some (.str (tx w))) (some (.int (k : Nat))) v9) (hCl b.l A I ++ G2) = .ok (.int (if (!decide (w = [45])) = true then 1 else 0)) (hCl b.l A I ++ G2) := b_of (arg_of (op_of (x := .str (tx w)) rfl (show dC _ _ _ = .ok (.str (tx [45])) _ from rfl) (ne_tx hw (by simp) _)) arg_nil) rfl
  have ev := op_of (k := kAdd) ix en (show kAdd (.int (b.get k)) (.int (if (!decide (w = [45])) = true then 1 else 0)) (hCl b.l A I ++ G2) = some (.int (b.get k + (if (!decide (w = [45])) = true then 1 else 0)), hCl b.l A I ++ G2) from rfl)
  have e := kPut_l (h := hCl b.l A I ++ G2) (r := 9) (k := k) (l := b.l) rfl (by rw [l_len]; omega) (.int (b.get k + (if (!decide (w = [45])) = true then 1 else 0)))
  have ef : b.l.set k (.int (b.get k + (if (!decide (w = [45])) = true then 1 else 0))) = (if w = [45] then b else b.inc k).l := by
    by_cases h : w = [45]
    · rw [if_pos h, decide_eq_true h]
      rcases lt6 k6 with rfl | rfl | rfl | rfl | rfl | rfl <;> simp [B6.l, B6.get]
    · rw [if_neg h, decide_eq_false h, ← l_inc b k k6]
      rfl
  rw [ef] at e
  exact put_of ev (var_of (v := .ref 9) rfl) (var_of (v := .int (k : Nat)) rfl) e
include fA fI
theorem cb_clean (x : List Va) (fx : refsVs x = []) {live : List Nat} {s : Sg} (hm : maskS live 0 s = Sc none none none none) (G : Hs) : cleanS 12 live s (hCl x A I ++ G) = some (Sc none none none none, hCl x A I) := by
  refine clean_to (by simp [hCl]) hm rfl (fun y hy => ?_) (fun y hy => ?_)
  · have hy' : y ∈ [7, 9, 10] := hy
    simp at hy'
    omega
  · have : List.flatMap refsO (hCl x A I) = [] := by
      have fa : refsO (.lst A) = [] := fA
      have fi : refsO (.lst I) = [] := fI
      have fx' : refsO (.lst x) = [] := fx
      have h0 : refsO W6' = [] := rfl
      have hN : refsO NM = [] := rfl
      unfold hCl
      simp only [List.flatMap_cons, List.flatMap_nil, fa, fi, fx', h0, hN, List.append_nil]
      rfl
    have hy' : y ∈ List.flatMap refsO (hCl x A I) := hy
    rw [this] at hy'
    exact absurd hy' List.not_mem_nil
theorem cb_turn (b : B6) (l : List Nat) (hl : l.length ≤ 10000) (hc : ∀ c ∈ l, c < 0x110000) :
    (∃ b', goB b l = some b' ∧ ∃ s2 h2, cbB (Sc (some (.str (tx l))) none none none) (hC b A I) = .nx s2 h2 ∧ cleanS 12 [1, 4, 5] s2 h2 = some (Sc none none none none, hC b' A I)) ∨ (goB b l = none ∧ RtF (cbB (Sc (some (.str (tx l))) none none none) (hC b A I))) := by
  have t1 := cbT_ok hl hc b A I
  have rtF : ∀ {f k : Ds} {s : Sg} {h : Hs}, RtF (f s h) → RtF (dSeq f k s h) := fun ⟨h, e⟩ => ⟨h, rt_seq e⟩
  cases hp : parse l with
  | none =>
    right
    refine ⟨by unfold goB; rw [hp], ?_⟩
    by_cases q : c1 l = true
    · rw [q] at t1
      obtain ⟨k, k6, h4, e3, e4⟩ := c1_line q
      have nin : l.take (l.length - 4) ∉ hds := fun h => by
        obtain ⟨d, hd⟩ := parse_of k6 e4 h
        rw [hp] at hd
        cases hd
      have t3 := cb3_t (A := A) (I := I) (l := l) (w := l.take (l.length - 4)) (k := k) (fun c h => hc c (List.mem_of_mem_take h)) b.l
      rw [decide_eq_false nin] at t3
      exact ⟨_, seq_nx ((if_f t1).trans rfl) (seq_nx (cb2_ok hl h4 k6 rfl e3 b.l) (rt_seq ((if_t t3).trans rfl)))⟩
    · have q' : c1 l = false := by simpa using q
      rw [q'] at t1
      exact ⟨_, rt_seq ((if_t t1).trans rfl)⟩
  | some d =>
    obtain ⟨el, h6⟩ := parse_ln hp
    obtain ⟨e1, e2, e3, e4⟩ := ln_take d
    have q := c1_ln d h6
    have k6 := tl_6 d h6
    have hin := hd_in d h6
    rw [← el] at e1 e2 e3 q
    rw [q] at t1
    have hw : ∀ c ∈ Dd.hd d, c < 0x110000 := fun c h => hc c (by rw [← e1] at h; exact List.mem_of_mem_take h)
    have t3 := cb3_t (A := A) (I := I) (l := l) (w := Dd.hd d) (k := Dd.tl d) hw b.l
    rw [decide_eq_true hin] at t3
    have st : ∀ r, dSeq cb4 cb5 (Sc (some (.str (tx l))) (some (.str (tx (Dd.hd d)))) (some (.int (Dd.tl d : Nat))) none) (hCl b.l A I ++ G2) = r → cbB (Sc (some (.str (tx l))) none none none) (hC b A I) = r := fun r e => seq_nx ((if_f t1).trans rfl) (seq_nx (cb2_ok hl (by omega) k6 e1 e2 b.l) (seq_nx ((if_f t3).trans rfl) e))
    have ne_ : ∀ (w : List Nat) (H : Hs), dTest (dOp kNe (dVar 7) (dC (.str (Str.mk #[43])))) (Sc (some (.str (tx l))) (some (.str (tx (Dd.hd d)))) (some (.int (Dd.tl d : Nat))) none) H = .ok (!decide (Dd.hd d = [43])) H := fun w H => tst_of (op_of (x := .str (tx (Dd.hd d))) rfl (show dC _ _ _ = .ok (.str (tx [43])) _ from rfl) (ne_tx hw (by simp) _))
    have eq_ : ∀ (H : Hs), dTest (dOp kEq (dVar 7) (dC (.str (Str.mk #[45])))) (Sc (some (.str (tx l))) (some (.str (tx (Dd.hd d)))) (some (.int (Dd.tl d : Nat))) none) H = .ok (decide (Dd.hd d = [45])) H := fun H => tst_of (op_of (x := .str (tx (Dd.hd d))) rfl (show dC _ _ _ = .ok (.str (tx [45])) _ from rfl) (eq_tx hw (by simp) _))
    have fin : ∀ (n : Nat), n < 6 → Dd.hd d ≠ [43] → (d.no b ↔ b.get n = 0) → d.to b = (if Dd.hd d = [45] then b.dec n else (b.dec n).inc (Dd.tl d)) →
        dSet 9 (dIf (dTest (dOp kEq (dVar 7) (dC (.str (Str.mk #[45]))))) (dVar 8) (dM2 "tuple" kIndexT "list" kIndexL (dVar 1) (aCons (dVar 7) aNil))) (Sc (some (.str (tx l))) (some (.str (tx (Dd.hd d)))) (some (.int (Dd.tl d : Nat))) none) (hCl b.l A I ++ G2) = .nx (Sc (some (.str (tx l))) (some (.str (tx (Dd.hd d)))) (some (.int (Dd.tl d : Nat))) (some (.int (n : Nat)))) (hCl b.l A I ++ G2) →
        (∃ b', goB b l = some b' ∧ ∃ s2 h2, cbB (Sc (some (.str (tx l))) none none none) (hC b A I) = .nx s2 h2 ∧ cleanS 12 [1, 4, 5] s2 h2 = some (Sc none none none none, hC b' A I)) ∨ (goB b l = none ∧ RtF (cbB (Sc (some (.str (tx l))) none none none) (hC b A I))) := by
      intro n n6 hp43 hno hto e9
      have tn := ne_ [] (hCl b.l A I ++ G2)
      rw [decide_eq_false hp43] at tn
      obtain ⟨w1, w2⟩ := cbw (A := A) (I := I) (l := l) (w := Dd.hd d) (n := n) (k := Dd.tl d) n6 b
      by_cases hz : b.get n = 0
      · right
        rw [if_pos hz] at w1
        refine ⟨by unfold goB; rw [hp]; exact if_pos (hno.mpr hz), _, st _ (rt_seq ((if_t tn).trans (seq_nx e9 (rt_seq w1))))⟩
      · left
        rw [if_neg hz] at w1
        refine ⟨d.to b, by unfold goB; rw [hp]; exact if_neg fun z => hz (hno.mp z), _, _, st _ (seq_nx ((if_t tn).trans (seq_nx e9 (seq_nx w1 w2))) (cbi k6 hw (b.dec n))), ?_⟩
        rw [hto]
        exact cb_clean fA fI _ rfl rfl G2
    cases d with
    | add k =>
      left
      have tn := ne_ [] (hCl b.l A I ++ G2)
      rw [decide_eq_true (show Dd.hd (Dd.add k) = [43] from rfl)] at tn
      refine ⟨b.inc k, by unfold goB; rw [hp]; exact if_neg (show ¬ k = 6 from by have : k < 6 := h6; omega), _, _, st _ (seq_nx ((if_f tn).trans rfl) (cbi k6 hw b)), ?_⟩
      exact cb_clean fA fI _ rfl rfl G2
    | drop k =>
      have hk : k < 6 := h6
      refine fin k hk (by simp [Dd.hd]) ⟨fun z => z.elim (fun z => by omega) id, .inr⟩ rfl ?_
      have te := eq_ (hCl b.l A I ++ G2)
      rw [decide_eq_true (show Dd.hd (Dd.drop k) = [45] from rfl)] at te
      refine set_of ?_
      unfold dIf
      rw [te]
      rfl
    | chg n k =>
      obtain ⟨hn, hk⟩ : n < 6 ∧ k < 6 := h6
      have n1 : nmL n ≠ [43] := fun e => by have := congrArg List.length e; rw [nm_len] at this; simp at this
      have n2 : nmL n ≠ [45] := fun e => by have := congrArg List.length e; rw [nm_len] at this; simp at this
      refine fin n hn n1 ⟨fun z => z.elim (fun z => by omega) id, .inr⟩ (by show b.chg n k = if nmL n = [45] then _ else _; rw [if_neg n2]; rfl) ?_
      have te := eq_ (hCl b.l A I ++ G2)
      rw [decide_eq_false (show Dd.hd (Dd.chg n k) ≠ [45] from n2)] at te
      refine set_of ?_
      unfold dIf
      rw [te]
      show dM2 "tuple" kIndexT "list" kIndexL (dVar 1) (aCons (dVar 7) aNil) (Sc (some (.str (tx l))) (some (.str (tx (nmL n)))) (some (.int (k : Nat))) none) (hCl b.l A I ++ G2) = _
      unfold dM2
      show liftO (kIndexL (.ref 7) [.str (tx (nmL n))] (hCl b.l A I ++ G2)) = _
      rw [idx_nm hn rfl]
      rfl
end
end Yp
set_option Elab.async false
set_option linter.all false
set_option maxRecDepth 100000
set_option maxHeartbeats 4000000
set_option autoImplicit false
namespace Yp
open PySem PySem.Spec PyProof.Rows L2 Wr Pg Xt
theorem n6_none {m : List Nat} (hm : nmI m = none) {h : Hs} {r : Nat} (hr : h[r]? = some nums6) : kNotInDk (.str (tx m)) (.ref r) h = some (.bl true, h) ∧ kInDk (.str (tx m)) (.ref r) h = some (.bl false, h) := by
  have n := nmI_none hm
  have k : ∀ i < 6, (decide ((Sum.inr (tx (nmL i)) : Key) = .inr (tx m))) = false := fun i hi => decide_eq_false fun e => n i hi (tx_inj.mp (Sum.inr.inj e)).symm
  constructor
  · unfold kNotInDk hasDk
    simp only [hr, nums6, Wr.keyOf, Option.map_some, gK, k 0 (by omega), k 1 (by omega), k 2 (by omega), k 3 (by omega), k 4 (by omega), k 5 (by omega)]
    rfl
  · unfold kInDk hasDk
    simp only [hr, nums6, Wr.keyOf, Option.map_some, gK, k 0 (by omega), k 1 (by omega), k 2 (by omega), k 3 (by omega), k 4 (by omega), k 5 (by omega)]
    rfl
theorem n6_some {k : Nat} (hk : k < 6) {h : Hs} {r : Nat} (hr : h[r]? = some nums6) : kNotInDk (.str (tx (nmL k))) (.ref r) h = some (.bl false, h) := by
  have e : (gK [((Sum.inr (tx (nmL 0)) : Key), Va.int 0), (.inr (tx (nmL 1)), .int 1), (.inr (tx (nmL 2)), .int 2), (.inr (tx (nmL 3)), .int 3), (.inr (tx (nmL 4)), .int 4), (.inr (tx (nmL 5)), .int 5)] (.inr (tx (nmL k)))).isSome = true := by
    rcases lt6 hk with rfl | rfl | rfl | rfl | rfl | rfl <;> kernel_rfl
  unfold kNotInDk hasDk
  simp only [hr, nums6, Wr.keyOf, Option.map_some, e]
  rfl
abbrev HW (now : Va) (P L : List Va) (ws : List (List Nat)) : Hs := [PI now 1 2, .lst P, .lst L, .lst (sL ws), nums6]
/-- no step -/
def Bad (ws : List (List Nat)) : Prop := ws.length ≠ 2 ∨ ∃ w m, ws = [w, m] ∧ (nmI m = none ∨ ((∃ k, k < 6 ∧ m = nmL k) ∧ w ≠ [43] ∧ w ≠ [45] ∧ nmI w = none))
theorem parse_none {l : List Nat} (h : parse l = none) : Bad (splA 32 [] l) := by
  unfold parse at h
  split at h
  · rename_i w m es
    rw [es]
    right
    refine ⟨w, m, rfl, ?_⟩
    split at h
    · rename_i k hk
      obtain ⟨k6, em⟩ := nmI_some hk
      right
      split at h
      · cases h
      · split at h
        · cases h
        · refine ⟨⟨k, k6, em⟩, ‹_›, ‹_›, ?_⟩
          simpa using h
    · exact .inl ‹_›
  · rename_i hn
    left
    intro e
    match hs : splA 32 [] l, e with
    | [w, m], _ => exact hn w m hs
theorem dl_bad {now : Va} {P L : List Va} {ws : List (List Nat)} (hl : ws.length ≤ 100000) (hc : ∀ w ∈ ws, ∀ c ∈ w, c < 0x110000) (hb : Bad ws) : do_line [.ref 0, .ref 3, .ref 4] (HW now P L ws) = .ex 6 (HW now P L ws) := by
  have el : dB kLen (aCons (dVar 1) aNil) sl (HW now P L ws) = .ok (.int (ws.length : Nat)) (HW now P L ws) := by
    refine b_of (vs := [.ref 3]) rfl ?_
    show some (Va.int (((sL ws).length : Nat) : Int), HW now P L ws) = _
    simp [sL]
  have tl := tst_of (op_of el (show dC (.int 2) sl (HW now P L ws) = .ok (.int 2) (HW now P L ws) from rfl) (neInt _ _ _))
  have go : ∀ r, (dSeq (dIfS dl0 (dRaise 6) dNx) (dIfS dl1 (dExpr (dMeth "add" Poll_add 2 (dVar 0) (aCons (aN 1) aNil))) (dIfS dl2 (dExpr (dMeth "drop" Poll_drop 2 (dVar 0) (aCons (aN 1) aNil))) (dIfS dl3 (dExpr (dMeth "change" Poll_change 3 (dVar 0) (aCons (aN 0) (aCons (aN 1) aNil)))) (dRaise 6)))) sl (HW now P L ws)) = r → do_line [.ref 0, .ref 3, .ref 4] (HW now P L ws) = compact 5 (toRs r) := fun r e => by rw [← e]; rfl
  rcases hb with h | ⟨w, m, rfl, h⟩
  · rw [decide_eq_false (by omega)] at tl
    have t0 : dl0 sl (HW now P L ws) = .ok true (HW now P L ws) := or_t tl
    rw [go _ (ex_seqA ((if_t t0).trans rfl))]
    rfl
  · have tl : dTest (dOp kNe (dB kLen (aCons (dVar 1) aNil)) (dC (.int 2))) sl (HW now P L [w, m]) = .ok false (HW now P L [w, m]) := tl
    have i1 : dOp kIxU (dVar 1) (dC (.int 1)) sl (HW now P L [w, m]) = .ok (.str (tx m)) (HW now P L [w, m]) := op_of (x := .ref 3) rfl rfl (ixLv (i := 1) (l := [.str (tx w), .str (tx m)]) rfl rfl)
    have i0 : dOp kIxU (dVar 1) (dC (.int 0)) sl (HW now P L [w, m]) = .ok (.str (tx w)) (HW now P L [w, m]) := op_of (x := .ref 3) rfl rfl (ixLv (i := 0) (l := [.str (tx w), .str (tx m)]) rfl rfl)
    have hw : ∀ c ∈ w, c < 0x110000 := hc w (by simp)
    rcases h with h | ⟨⟨k, k6, rfl⟩, h1, h2, h3⟩
    · have t0 : dl0 sl (HW now P L [w, m]) = .ok true (HW now P L [w, m]) := (or_f tl).trans (tst_of (op_of i1 (var_of (i := 2) (v := .ref 4) rfl) (n6_none h rfl).1))
      rw [go _ (ex_seqA ((if_t t0).trans rfl))]
      rfl
    · have t0 : dl0 sl (HW now P L [w, nmL k]) = .ok false (HW now P L [w, nmL k]) := (or_f tl).trans (tst_of (op_of i1 (var_of (i := 2) (v := .ref 4) rfl) (n6_some k6 rfl)))
      have t1 : dl1 sl (HW now P L [w, nmL k]) = .ok false (HW now P L [w, nmL k]) := tst_of (op_of i0 (show dC _ sl _ = .ok (.str (tx [43])) _ from rfl) (by rw [eq_tx hw (by simp), decide_eq_false h1]))
      have t2 : dl2 sl (HW now P L [w, nmL k]) = .ok false (HW now P L [w, nmL k]) := tst_of (op_of i0 (show dC _ sl _ = .ok (.str (tx [45])) _ from rfl) (by rw [eq_tx hw (by simp), decide_eq_false h2]))
      have t3 : dl3 sl (HW now P L [w, nmL k]) = .ok false (HW now P L [w, nmL k]) := tst_of (op_of i0 (var_of (i := 2) (v := .ref 4) rfl) (n6_none h3 rfl).2)
      rw [go _ (seq_nx ((if_f t0).trans rfl) ((if_f t1).trans ((if_f t2).trans ((if_f t3).trans rfl))))]
      rfl
theorem dl_no (b : B6) {P L : List Va} (fP : refsVs P = []) (fL : refsVs L = []) (hb : b.ok1) (d : Dd) (h6 : d.ok6) (hno : d.no b) : do_line [.ref 0, .ref 3, .ref 4] (H5 b.v P L d) = .ex 4 (H5 b.v P L d) := by
  have fb := refs_book b
  have A := at5 fb fP fL d
  have go : ∀ r, (dSeq (dIfS dl0 (dRaise 6) dNx) (dIfS dl1 (dExpr (dMeth "add" Poll_add 2 (dVar 0) (aCons (aN 1) aNil))) (dIfS dl2 (dExpr (dMeth "drop" Poll_drop 2 (dVar 0) (aCons (aN 1) aNil))) (dIfS dl3 (dExpr (dMeth "change" Poll_change 3 (dVar 0) (aCons (aN 0) (aCons (aN 1) aNil)))) (dRaise 6)))) sl (H5 b.v P L d)) = r → do_line [.ref 0, .ref 3, .ref 4] (H5 b.v P L d) = compact 5 (toRs r) := fun r e => by rw [← e]; rfl
  cases d with
  | add n =>
    have hn : n < 6 := h6
    have : n = 6 := hno
    omega
  | drop n =>
    have hn : n < 6 := h6
    obtain ⟨e0, e1, e2, e3⟩ := dl_drop b.v P L n hn
    have fa : (aCons (aN 1) aNil) sl (H5 b.v P L (.drop n)) = .ok [.int n] (H5 b.v P L (.drop n)) := by rw [u_acons, e3]; rfl
    have em : dMeth "drop" Poll_drop 2 (dVar 0) (aCons (aN 1) aNil) sl (H5 b.v P L (.drop n)) = .ex 4 (H5 b.v P L (.drop n)) :=
      (meth_at (np := 2) (r := 0) (vs := [.int n]) rfl (A.ins _ (by decide +kernel)) fa rfl).trans (A.exc (post := [.int n]) (by simp [refsVs, refsV]) (drop_x b hb.ok n (by omega) hno P L))
    rw [go _ (seq_nx ((if_f e0).trans rfl) ((if_f e1).trans ((if_t e2).trans (show dExpr _ sl _ = .ex 4 sl (H5 b.v P L (.drop n)) from by unfold dExpr; rw [em]; rfl))))]
    rfl
  | chg n o =>
    obtain ⟨hn, ho⟩ : n < 6 ∧ o < 6 := h6
    obtain ⟨e0, e1, e2, e3, e4, e5⟩ := dl_chg b.v P L n o hn ho
    have fa : (aCons (aN 0) (aCons (aN 1) aNil)) sl (H5 b.v P L (.chg n o)) = .ok [.int n, .int o] (H5 b.v P L (.chg n o)) := by rw [u_acons, e4, u_ac1, u_acons, e5]; rfl
    have em : dMeth "change" Poll_change 3 (dVar 0) (aCons (aN 0) (aCons (aN 1) aNil)) sl (H5 b.v P L (.chg n o)) = .ex 4 (H5 b.v P L (.chg n o)) :=
      (meth_at (np := 3) (r := 0) (vs := [.int n, .int o]) rfl (A.ins _ (by decide +kernel)) fa rfl).trans (A.exc (post := [.int n, .int o]) (by simp [refsVs, refsV]) (chg_x b hb.ok n o (by omega) ho hno P L))
    rw [go _ (seq_nx ((if_f e0).trans rfl) ((if_f e1).trans ((if_f e2).trans ((if_t e3).trans (show dExpr _ sl _ = .ex 4 sl (H5 b.v P L (.chg n o)) from by unfold dExpr; rw [em]; rfl)))))]
    rfl
/-- a line that is refused -/
theorem dl_x {b : B6} {P L : List Va} (fP : refsVs P = []) (fL : refsVs L = []) (hb : b.ok1) {l : List Nat} (hl : l.length ≤ 10000) (hc : ∀ c ∈ l, c < 0x110000) (h : match parse l with | some d => d.no b | none => True) : ∃ c, (c = 4 ∨ c = 6) ∧ do_line [.ref 0, .ref 3, .ref 4] (HW b.v P L (splA 32 [] l)) = .ex c (HW b.v P L (splA 32 [] l)) := by
  cases e : parse l with
  | none => exact ⟨6, .inr rfl, dl_bad (by have := spl_many 32 l []; omega) (spl_mem 32 l [] (fun c => c < 0x110000) hc (fun x hx => nomatch hx)) (parse_none e)⟩
  | some d =>
    rw [e] at h
    obtain ⟨el, h6⟩ := parse_ln e
    have q := dl_no b fP fL hb d h6 h
    have ew : (.lst (wds d) : Ob) = .lst (sL (splA 32 [] l)) := by rw [el, ← ln_split, sL_map]
    have : H5 b.v P L d = HW b.v P L (splA 32 [] l) := by
      show [PI b.v 1 2, .lst P, .lst L, .lst (wds d), nums6] = _
      rw [ew]
    rw [this] at q
    exact ⟨4, .inl rfl, q⟩
section
variable {o0 o1 o5 o6 o7 : Ob} {P L : List Va} (fP : refsVs P = []) (fL : refsVs L = []) (b : B6) {ws : List (List Nat)} {c : Nat} (e : do_line [.ref 0, .ref 3, .ref 4] (HW b.v P L ws) = .ex c (HW b.v P L ws))
include fP fL e
theorem dx_call0 : ∃ h2, callD do_line [.ref 3, .ref 8, .ref 2] [o0, o1, nums6, PI b.v 4 5, .lst P, .lst L, o6, o7, .lst (sL ws)] = .ex c h2 := by
  have fb := refs_book b
  have fw : refsVs (sL ws) = [] := refs_sL ws
  have fu : refsO nums6 = [] := rfl
  have A : At [o0, o1, nums6, PI b.v 4 5, .lst P, .lst L, o6, o7, .lst (sL ws)] 3 4 5 b.v P L := ⟨by decide, by decide, by decide, rfl, rfl, rfl, fb, fP, fL⟩
  have m : Wr.reach 300 [o0, o1, nums6, PI b.v 4 5, .lst P, .lst L, o6, o7, .lst (sL ws)] (refsVs [.ref 3, .ref 8, .ref 2]) [] = [3, 4, 5, 8, 2] := by
    show Wr.reach (297 + 3) _ (3 :: [8, 2]) [] = _
    rw [A.reach]
    rw [reach_step0 (n := 296) (o := .lst (sL ws)) rfl fw rfl, reach_step0 (n := 295) (o := nums6) rfl fu rfl]
    rfl
  have s : selO [3, 4, 5, 8, 2] [o0, o1, nums6, PI b.v 4 5, .lst P, .lst L, o6, o7, .lst (sL ws)] [3, 4, 5, 8, 2] = some (HW b.v P L ws) := by
    have i1 : idx [3, 4, 5, 8, 2] 4 = some 1 := rfl
    have i5 : idx [3, 4, 5, 8, 2] 5 = some 2 := rfl
    have n1 : renO (idx [3, 4, 5, 8, 2]) nums6 = some nums6 := renO_low _ (nil_low fu)
    have n2 : renO (idx [3, 4, 5, 8, 2]) (.lst (sL ws)) = some (.lst (sL ws)) := renO_lst fw
    simp [selO, ren_PI fb i1 i5, renO_lst fP, renO_lst fL, n1, n2]
  have r : rens (idx [3, 4, 5, 8, 2]) [.ref 3, .ref 8, .ref 2] = some [.ref 0, .ref 3, .ref 4] := rfl
  unfold callD
  simp only [m, r, s, show nodupB [3, 4, 5, 8, 2] = true from rfl, if_true]
  rw [e]
  have rb : renOs (bkI [3, 4, 5, 8, 2] 9) (HW b.v P L ws) = some [PI b.v 4 5, .lst P, .lst L, .lst (sL ws), nums6] := by
    have i1 : bkI [3, 4, 5, 8, 2] 9 1 = some 4 := rfl
    have i5 : bkI [3, 4, 5, 8, 2] 9 2 = some 5 := rfl
    have n1 : renO (bkI [3, 4, 5, 8, 2] 9) nums6 = some nums6 := renO_low _ (nil_low fu)
    have n2 : renO (bkI [3, 4, 5, 8, 2] 9) (.lst (sL ws)) = some (.lst (sL ws)) := renO_lst fw
    simp [renOs, ren_PI fb i1 i5, renO_lst fP, renO_lst fL, n1, n2]
  refine ⟨[o0, o1, nums6, PI b.v 4 5, .lst P, .lst L, o6, o7, .lst (sL ws)], ?_⟩
  show (match backH [3, 4, 5, 8, 2] _ (HW b.v P L ws) with
    | some h2 => Rs.ex c h2
    | none => .no) = _
  unfold backH
  rw [show List.length [o0, o1, nums6, PI b.v 4 5, Ob.lst P, .lst L, o6, o7, .lst (sL ws)] = 9 from rfl, rb]
  rfl
theorem dx_call1 : ∃ h2, callD do_line [.ref 3, .ref 9, .ref 2] [o0, o1, nums6, PI b.v 4 8, .lst P, o5, o6, o7, .lst L, .lst (sL ws)] = .ex c h2 := by
  have fb := refs_book b
  have fw : refsVs (sL ws) = [] := refs_sL ws
  have fu : refsO nums6 = [] := rfl
  have A : At [o0, o1, nums6, PI b.v 4 8, .lst P, o5, o6, o7, .lst L, .lst (sL ws)] 3 4 8 b.v P L := ⟨by decide, by decide, by decide, rfl, rfl, rfl, fb, fP, fL⟩
  have m : Wr.reach 300 [o0, o1, nums6, PI b.v 4 8, .lst P, o5, o6, o7, .lst L, .lst (sL ws)] (refsVs [.ref 3, .ref 9, .ref 2]) [] = [3, 4, 8, 9, 2] := by
    show Wr.reach (297 + 3) _ (3 :: [9, 2]) [] = _
    rw [A.reach]
    rw [reach_step0 (n := 296) (o := .lst (sL ws)) rfl fw rfl, reach_step0 (n := 295) (o := nums6) rfl fu rfl]
    rfl
  have s : selO [3, 4, 8, 9, 2] [o0, o1, nums6, PI b.v 4 8, .lst P, o5, o6, o7, .lst L, .lst (sL ws)] [3, 4, 8, 9, 2] = some (HW b.v P L ws) := by
    have i1 : idx [3, 4, 8, 9, 2] 4 = some 1 := rfl
    have i5 : idx [3, 4, 8, 9, 2] 8 = some 2 := rfl
    have n1 : renO (idx [3, 4, 8, 9, 2]) nums6 = some nums6 := renO_low _ (nil_low fu)
    have n2 : renO (idx [3, 4, 8, 9, 2]) (.lst (sL ws)) = some (.lst (sL ws)) := renO_lst fw
    simp [selO, ren_PI fb i1 i5, renO_lst fP, renO_lst fL, n1, n2]
  have r : rens (idx [3, 4, 8, 9, 2]) [.ref 3, .ref 9, .ref 2] = some [.ref 0, .ref 3, .ref 4] := rfl
  unfold callD
  simp only [m, r, s, show nodupB [3, 4, 8, 9, 2] = true from rfl, if_true]
  rw [e]
  have rb : renOs (bkI [3, 4, 8, 9, 2] 10) (HW b.v P L ws) = some [PI b.v 4 8, .lst P, .lst L, .lst (sL ws), nums6] := by
    have i1 : bkI [3, 4, 8, 9, 2] 10 1 = some 4 := rfl
    have i5 : bkI [3, 4, 8, 9, 2] 10 2 = some 8 := rfl
    have n1 : renO (bkI [3, 4, 8, 9, 2] 10) nums6 = some nums6 := renO_low _ (nil_low fu)
    have n2 : renO (bkI [3, 4, 8, 9, 2] 10) (.lst (sL ws)) = some (.lst (sL ws)) := renO_lst fw
    simp [renOs, ren_PI fb i1 i5, renO_lst fP, renO_lst fL, n1, n2]
  refine ⟨[o0, o1, nums6, PI b.v 4 8, .lst P, o5, o6, o7, .lst L, .lst (sL ws)], ?_⟩
  show (match backH [3, 4, 8, 9, 2] _ (HW b.v P L ws) with
    | some h2 => Rs.ex c h2
    | none => .no) = _
  unfold backH
  rw [show List.length [o0, o1, nums6, PI b.v 4 8, Ob.lst P, o5, o6, o7, .lst L, .lst (sL ws)] = 10 from rfl, rb]
  rfl
end
end Yp
set_option Elab.async false
set_option linter.all false
set_option maxRecDepth 100000
set_option maxHeartbeats 4000000
set_option autoImplicit false
namespace Yp
open PySem PySem.Spec PyProof.Rows L2 Wr Pg Xt
section
variable {f : Nat → Option Nat} (hf : ∀ x, ∃ k, f x = some k)
include hf
mutual
theorem ren_tot : ∀ v : Va, ∃ v', ren f v = some v'
  | .ref i => by obtain ⟨k, h⟩ := hf i; exact ⟨.ref k, by rw [ren, h]; rfl⟩
  | .tup xs => by obtain ⟨ys, h⟩ := rens_tot xs; exact ⟨.tup ys, by rw [ren, h]; rfl⟩
  | .non => ⟨_, rfl⟩
  | .bl _ => ⟨_, rfl⟩
  | .int _ => ⟨_, rfl⟩
  | .str _ => ⟨_, rfl⟩
  | .ty _ => ⟨_, rfl⟩
  | .gl _ => ⟨_, rfl⟩
  | .scr => ⟨_, rfl⟩
  | .exc _ => ⟨_, rfl⟩
theorem rens_tot : ∀ vs : List Va, ∃ ws, rens f vs = some ws
  | [] => ⟨[], rfl⟩
  | x :: xs => by
    obtain ⟨a, h1⟩ := ren_tot x
    obtain ⟨b, h2⟩ := rens_tot xs
    exact ⟨a :: b, by simp only [rens, h1, h2]⟩
end
theorem renK_tot {κ : Type} : ∀ vs : List (κ × Va), ∃ ws, renK f vs = some ws
  | [] => ⟨[], rfl⟩
  | (k, x) :: xs => by
    obtain ⟨a, h1⟩ := ren_tot hf x
    obtain ⟨b, h2⟩ := renK_tot xs
    exact ⟨(k, a) :: b, by simp only [renK, h1, h2]⟩
theorem renO_tot (o : Ob) : ∃ o', renO f o = some o' := by
  cases o with
  | lst xs => obtain ⟨ys, h⟩ := rens_tot hf xs; exact ⟨_, by rw [renO, h]; rfl⟩
  | dK xs => obtain ⟨ys, h⟩ := renK_tot hf xs; exact ⟨_, by rw [renO, h]; rfl⟩
  | dT xs => obtain ⟨ys, h⟩ := renK_tot hf xs; exact ⟨_, by rw [renO, h]; rfl⟩
  | dU xs => obtain ⟨ys, h⟩ := renK_tot hf xs; exact ⟨_, by rw [renO, h]; rfl⟩
  | ins c xs => obtain ⟨ys, h⟩ := renK_tot hf xs; exact ⟨_, by rw [renO, h]; rfl⟩
  | dF xs => obtain ⟨ys, h⟩ := renK_tot hf xs; exact ⟨_, by rw [renO, h]; rfl⟩
theorem renOs_tot : ∀ G : Hs, ∃ G', renOs f G = some G'
  | [] => ⟨[], rfl⟩
  | o :: G => by
    obtain ⟨a, h1⟩ := renO_tot hf o
    obtain ⟨b, h2⟩ := renOs_tot G
    exact ⟨a :: b, by simp only [renOs, h1, h2]⟩
end
theorem callD_exX {F : Fn} {args : List Va} {h G : Hs} {c : Nat} (ha : refsVs args = []) (e : F args [] = .ex c G) : ∃ G', callD F args h = .ex c (h ++ G') := by
  have m : reach 300 h (refsVs args) [] = [] := by rw [ha]; rfl
  have e1 : rens (idx []) args = some args := rens_low _ (nil_low ha)
  obtain ⟨G', hG⟩ := renOs_tot (f := bkI [] h.length) (fun x => ⟨h.length + x, by simp [bkI]⟩) G
  unfold callD
  simp only [m, e1]
  show ∃ G', Wr.back [] h (F args []) = .ex c (h ++ G')
  rw [e]
  unfold Wr.back backH
  simp only [hG]
  exact ⟨G', by rw [mix_nil]; rfl⟩
def hG (A I : List Va) (s : Zl × B6) : Hs := if s.1 = [] then [.lst A, .lst prs6, nums6, PI s.2.v 4 5, .lst [], .lst [], .lst A, .lst I] else [.lst A, .lst prs6, nums6, PI s.2.v 4 8, .lst (PV (vv s.1)), .lst [], .lst A, .lst I, .lst []]
abbrev rpX : Ds := dTryX [0, 1, 2, 3, 4, 5, 6, 7] 0 6 (dExpr (dCall do_line 3 (aCons (dVar 4) (aCons (dM "str" kSplit (dVar 5) (aCons (dC (.str (Str.mk #[32]))) aNil)) (aCons (dVar 1) aNil)))))
theorem rpX_c {h h1 : Hs} {l : List Nat} {w : Nat} {r : Rs Va} (hs : kSplit (.str (tx l)) [.str (tx [32])] h = some (.ref w, h1)) (e : callD do_line [.ref 3, .ref w, .ref 2] h1 = r) : dCall do_line 3 (aCons (dVar 4) (aCons (dM "str" kSplit (dVar 5) (aCons (dC (.str (Str.mk #[32]))) aNil)) (aCons (dVar 1) aNil))) (sR (some (.str (tx l)))) h = r := by
  have ea : (aCons (dVar 4) (aCons (dM "str" kSplit (dVar 5) (aCons (dC (.str (Str.mk #[32]))) aNil)) (aCons (dVar 1) aNil))) (sR (some (.str (tx l)))) h = .ok [.ref 3, .ref w, .ref 2] h1 := arg_of rfl (arg_of (m_of (o := .str (tx l)) (vs := [.str (tx [32])]) rfl rfl rfl hs) (arg_of rfl arg_nil))
  unfold dCall
  rw [ea]
  exact e
theorem rpX_ok {h h1 h2 : Hs} {l : List Nat} {w : Nat} (hs : kSplit (.str (tx l)) [.str (tx [32])] h = some (.ref w, h1)) (e : callD do_line [.ref 3, .ref w, .ref 2] h1 = .ok .non h2) : rpX (sR (some (.str (tx l)))) h = .nx (sR (some (.str (tx l)))) h2 := by
  unfold rpX dTryX
  rw [exp_of (rpX_c hs e)]
theorem rpX_x {h h1 h2 : Hs} {l : List Nat} {w c : Nat} (hc : c = 4 ∨ c = 6) (hs : kSplit (.str (tx l)) [.str (tx [32])] h = some (.ref w, h1)) (e : callD do_line [.ref 3, .ref w, .ref 2] h1 = .ex c h2) : rpX (sR (some (.str (tx l)))) h = .ex 106 (sR (some (.str (tx l)))) h2 := by
  have : dExpr (dCall do_line 3 (aCons (dVar 4) (aCons (dM "str" kSplit (dVar 5) (aCons (dC (.str (Str.mk #[32]))) aNil)) (aCons (dVar 1) aNil)))) (sR (some (.str (tx l)))) h = .ex c (sR (some (.str (tx l)))) h2 := by
    unfold dExpr
    rw [rpX_c hs e]
    rfl
  unfold rpX dTryX
  rw [this]
  rcases hc with rfl | rfl <;> rfl
def Ex106 (r : RS) : Prop := ∃ s h, r = .ex 106 s h
theorem PV_snoc (ps : Zl) (d : Dd) (b : B6) : PV (vv (ps ++ [(d, b)])) = PV (vv ps) ++ [.tup [d.v, b.v]] := by
  rw [vv_app]
  show PV (vv ps ++ [(d.v, b.v)]) = _
  rw [PV_app]
theorem le_ok1 {ps : Zl} {b : B6} (R : Run ps b) (h : ps.length ≤ 90) : b.ok1 := (Run.le _ rfl R).ok1 (by omega)
theorem turn_G1 {A I : List Va} (fA : refsVs A = []) (fI : refsVs I = []) (s : Zl × B6) (R : Run s.1 s.2) (hl : s.1.length ≤ 99) (ok1 : s.2.ok1) (l : List Nat) (h1 : l.length ≤ 10000) (h2 : ∀ c ∈ l, c < 0x110000) :
    (∃ s', go s l = some s' ∧ (Run s'.1 s'.2 ∧ s'.1.length = s.1.length + 1) ∧ ∃ s2 H2, rpX (sR (some (.str (tx l)))) (hG A I s) = .nx s2 H2 ∧ cleanS 8 [1, 4] s2 H2 = some (sR none, hG A I s')) ∨ (go s l = none ∧ Ex106 (rpX (sR (some (.str (tx l)))) (hG A I s))) := by
  obtain ⟨ps, b⟩ := s
  simp only at R hl ok1
  have fP := flatP1 ps
  have ks : ∀ h, kSplit (.str (tx l)) [.str (tx [32])] h = some (.ref h.length, h ++ [.lst (sL (splA 32 [] l))]) := fun h => by
    rw [kSplit_1 _ 32 (by omega) (by omega), sL_map]
  have lA : refsO (.lst A) = [] := fA
  have lI : refsO (.lst I) = [] := fI
  have lp : refsO (.lst prs6) = [] := rfl
  have e0 : ps = [] → hG A I (ps, b) = [.lst A, .lst prs6, nums6, PI b.v 4 5, .lst [], .lst [], .lst A, .lst I] := fun h => by unfold hG; rw [if_pos h]
  have e1 : ps ≠ [] → hG A I (ps, b) = [.lst A, .lst prs6, nums6, PI b.v 4 8, .lst (PV (vv ps)), .lst [], .lst A, .lst I, .lst []] := fun h => by unfold hG; rw [if_neg h]
  by_cases hx : (match parse l with | some d => d.no b | none => True)
  · right
    refine ⟨?_, ?_⟩
    · unfold go
      cases e : parse l with
      | none => rfl
      | some d => rw [e] at hx; exact if_pos hx
    · by_cases hp : ps = []
      · obtain ⟨c, hc, ed⟩ := dl_x (b := b) (P := []) (L := []) rfl rfl ok1 h1 h2 hx
        obtain ⟨h3, ec⟩ := dx_call0 (o0 := .lst A) (o1 := .lst prs6) (o6 := .lst A) (o7 := .lst I) (P := []) (L := []) rfl rfl b ed
        exact ⟨_, h3, rpX_x hc (by rw [e0 hp]; exact ks _) ec⟩
      · obtain ⟨c, hc, ed⟩ := dl_x (b := b) (P := PV (vv ps)) (L := []) fP rfl ok1 h1 h2 hx
        obtain ⟨h3, ec⟩ := dx_call1 (o0 := .lst A) (o1 := .lst prs6) (o5 := .lst []) (o6 := .lst A) (o7 := .lst I) (P := PV (vv ps)) (L := []) fP rfl b ed
        exact ⟨_, h3, rpX_x hc (by rw [e1 hp]; exact ks _) ec⟩
  · left
    cases e : parse l with
    | none => rw [e] at hx; exact absurd trivial hx
    | some d =>
      rw [e] at hx
      obtain ⟨el, h6⟩ := parse_ln e
      have can : d.can b := ⟨h6, hx, ok1⟩
      have ew : (.lst (sL (splA 32 [] l)) : Ob) = .lst (wds d) := by rw [el, ← ln_split, sL_map]
      rw [ew] at ks
      refine ⟨(ps ++ [(d, b)], d.to b), by unfold go; rw [e]; exact if_neg hx, ⟨R.snoc d can, by simp⟩, ?_⟩
      have en : hG A I (ps ++ [(d, b)], d.to b) = [.lst A, .lst prs6, nums6, PI (d.to b).v 4 8, .lst (PV (vv ps) ++ [.tup [d.v, b.v]]), .lst [], .lst A, .lst I, .lst []] := by
        unfold hG
        rw [if_neg (by simp), PV_snoc]
      have fP' : refsVs (PV (vv ps) ++ [.tup [d.v, b.v]]) = [] := by simp [refs_app, fP, refsVs, refsV, d.flat, refs_book]
      by_cases hp : ps = []
      · have c := dl_call0 (o0 := .lst A) (o1 := .lst prs6) (o6 := .lst A) (o7 := .lst I) (P := []) (L := []) rfl rfl (by simp) b d can
        refine ⟨_, _, rpX_ok (by rw [e0 hp]; exact ks _) c, ?_⟩
        rw [en, hp]
        exact cl_q (q := 9) (o5 := .lst []) lA lp rfl lA lI (refs_book _) (by rw [hp] at fP'; exact fP') rfl (by omega) rfl rfl rfl
      · have c := dl_call1 (o0 := .lst A) (o1 := .lst prs6) (o5 := .lst []) (o6 := .lst A) (o7 := .lst I) (P := PV (vv ps)) (L := []) fP rfl (by rw [Okp.len, vv_len]; omega) b d can
        refine ⟨_, _, rpX_ok (by rw [e1 hp]; exact ks _) c, ?_⟩
        rw [en]
        exact cl_q (q := 10) (o5 := .lst []) lA lp rfl lA lI (refs_book _) fP' rfl (by omega) rfl rfl rfl
theorem turn_G {A I : List Va} (fA : refsVs A = []) (fI : refsVs I = []) (s : Zl × B6) (R : Run s.1 s.2) (hl : s.1.length ≤ 90) (l : List Nat) (h1 : l.length ≤ 10000) (h2 : ∀ c ∈ l, c < 0x110000) :
    (∃ s', go s l = some s' ∧ (Run s'.1 s'.2 ∧ s'.1.length = s.1.length + 1) ∧ ∃ s2 H2, rpX (sR (some (.str (tx l)))) (hG A I s) = .nx s2 H2 ∧ cleanS 8 [1, 4] s2 H2 = some (sR none, hG A I s')) ∨ (go s l = none ∧ Ex106 (rpX (sR (some (.str (tx l)))) (hG A I s))) := turn_G1 fA fI s R (by omega) (le_ok1 R hl) l h1 h2
theorem end_G {A I : List Va} (s : Zl × B6) : compact 0 (.ok (.ref 3) (hG A I s)) = .ok (.ref 0) (H3 s.2.v (PV (vv s.1)) []) := by
  obtain ⟨ps, b⟩ := s
  have fP := flatP1 ps
  have fb := refs_book b
  have key : ∀ (q : Nat) (h : Hs), 5 ≤ q → h[3]? = some (PI b.v 4 q) → h[4]? = some (.lst (PV (vv ps))) → h[q]? = some (.lst []) → h.length ≠ 0 → compact 0 (.ok (.ref 3) h) = .ok (.ref 0) (H3 b.v (PV (vv ps)) []) := by
    intro q h hq g3 g4 gq hn
    have e : lastM 0 (.ref 3) h = [3, 4, q] := by
      unfold lastM
      show List.range 0 ++ List.filter (fun i => decide (0 ≤ i)) (Wr.reach (299 + 1) h (3 :: []) []) = _
      rw [reach_stepO g3 rfl, refs_PI fb]
      show List.range 0 ++ List.filter (fun i => decide (0 ≤ i)) (Wr.reach (298 + 1) h (4 :: [q]) [3]) = _
      rw [reach_step0 g4 fP rfl]
      show List.range 0 ++ List.filter (fun i => decide (0 ≤ i)) (Wr.reach (297 + 1) h (q :: []) [3, 4]) = _
      rw [reach_step0 gq rfl (by simp; omega)]
      simp [Wr.reach]
    have i1 : idx [3, 4, q] 4 = some 1 := rfl
    have i2 : idx [3, 4, q] q = some 2 := idx_at _ 2 q (by simp; omega) rfl
    have hn' : (h.length == 0) = false := by simp [hn]
    have nd : nodupB [3, 4, q] = true := nodupB_of (by simp; omega)
    unfold compact
    simp only [hn', Bool.false_eq_true, if_false, e, nd, if_true]
    have so : selO [3, 4, q] h [3, 4, q] = some (H3 b.v (PV (vv ps)) []) := by
      simp only [selO, g3, g4, gq, ren_PI fb i1 i2, renO_lst fP, renO_lst (show refsVs [] = [] from rfl)]
    rw [so]
    rfl
  unfold hG
  by_cases h0 : ps = []
  · subst h0
    rw [if_pos rfl]
    exact key 5 _ (by omega) rfl rfl rfl (by simp)
  · rw [if_neg h0]
    exact key 8 _ (by omega) rfl rfl rfl (by simp)
abbrev rp1 : Ds := dIfS (dOr (dNot (dTest (dB kIsi (aCons (dVar 0) (aCons (dC (.ty "str")) aNil))))) (dTest (dOp kNe (dOp kIxU spE (dNeg (dC (.int 1)))) (dC (.str (Str.mk #[])))))) (dRaise 6) dNx
abbrev rp4 : Ds := dForC [1, 4] (dIt (dSl spE oNone (oSome (dNeg (dC (.int 1)))))) (.nm 5) rpX
theorem jn_len (c : Nat) : ∀ ls : List (List Nat), ls ≠ [] → (jn c ls).length + 1 = (ls.map fun w => w.length + 1).sum
  | [], h => absurd rfl h
  | [w], _ => by simp [jn]
  | w :: v :: t, _ => by
    have ih := jn_len c (v :: t) (by simp)
    show (w ++ c :: jn c (v :: t)).length + 1 = _
    rw [List.map_cons, List.sum_cons, ← ih]
    simp
    omega
theorem sum_take (f : List Nat → Nat) : ∀ (ls : List (List Nat)) (j : Nat), ((ls.take j).map f).sum ≤ (ls.map f).sum
  | [], j => by simp
  | w :: t, 0 => by simp
  | w :: t, j + 1 => by
    have := sum_take f t j
    rw [List.take_succ_cons, List.map_cons, List.map_cons, List.sum_cons, List.sum_cons]
    omega
theorem ln_five (d : Dd) : 5 ≤ d.ln.length := by cases d <;> simp [Dd.ln, nm_len]
theorem lines_six : ∀ ps : Zl, 6 * ps.length ≤ ((ps.map (·.1.ln)).map fun w => w.length + 1).sum
  | [] => by simp
  | p :: ps => by
    have a := lines_six ps
    have b := ln_five p.1
    simp at a ⊢
    omega
theorem few_steps {L last : List Nat} {ini : List (List Nat)} (es : splA 10 [] L = ini ++ [last]) {ps : Zl} {j : Nat} (h : ps.map (·.1.ln) = ini.take j) : 6 * ps.length ≤ L.length := by
  have a := lines_six ps
  rw [h] at a
  have b := sum_take (fun w => w.length + 1) ini j
  have c := jn_len 10 (ini ++ [last]) (by simp)
  have d := jn_spl 10 L []
  rw [es] at d
  rw [d] at c
  simp only [List.map_append, List.sum_append, List.map_cons, List.map_nil, List.sum_cons, List.sum_nil, List.nil_append] at a b c
  omega
theorem rp_gen {L : List Nat} (hL : Xt.OkL L) {ini : List (List Nat)} {last : List Nat} (es : splA 10 [] L = ini ++ [last]) (f : Zl × B6 → List Nat → Option (Zl × B6)) (Inv : Nat → Zl × B6 → Prop) (h0 : Inv 0 ([], zb0))
    (step : ∀ (A I : List Va), refsVs A = [] → refsVs I = [] → ∀ (j : Nat) (s : Zl × B6) (l : List Nat), ini[j]? = some l → Inv j s → (∃ s', f s l = some s' ∧ Inv (j + 1) s' ∧ ∃ s2 H2, rpX (sR (some (.str (tx l)))) (hG A I s) = .nx s2 H2 ∧ cleanS 8 [1, 4] s2 H2 = some (sR none, hG A I s')) ∨ (f s l = none ∧ Ex106 (rpX (sR (some (.str (tx l)))) (hG A I s)))) :
    (last = [] ∧ ∃ s', ini.foldlM f ([], zb0) = some s' ∧ Inv ini.length s' ∧ K43.read_poll_t [.str (tx L)] [] = .ok (.ref 0) (H3 s'.2.v (PV (vv s'.1)) [])) ∨ ((last ≠ [] ∨ ini.foldlM f ([], zb0) = none) ∧ ∃ c h, (c = 6 ∨ c = 106) ∧ K43.read_poll_t [.str (tx L)] [] = .ex c h) := by
  have hlast : ∀ c ∈ last, c < 0x110000 := spl_mem 10 L [] (fun c => c < 0x110000) hL.2 (fun x hx => nomatch hx) last (by rw [es]; simp)
  have fA : refsVs (sL (ini ++ [last])) = [] := refs_sL _
  have fI : refsVs (sL ini) = [] := refs_sL _
  have eL : sL (ini ++ [last]) = sL ini ++ [.str (tx last)] := by simp [sL]
  have go_ : ∀ r, (dSeq rp1 (dSeq nmC (dSeq (dSet 4 (dMake Poll___init__)) (dSeq rp4 (dRet (dVar 4)))))) (S6 (some (.str (tx L))) none none none) [] = r → K43.read_poll_t [.str (tx L)] [] = compact 0 (toRs r) := fun r e => by
    rw [← e]; rfl
  have sp : ∀ (s : Sg) (h : Hs), s[0]? = some (some (.str (tx L))) → spE s h = .ok (.ref h.length) (h ++ [.lst (sL (ini ++ [last]))]) := fun s h hs => by
    have := m_split1 (s := s) (i := 0) (c := 10) (l := L) (by omega) (by have := hL.1; omega) hs h
    rw [es] at this
    exact this
  have e1 : (dNot (dTest (dB kIsi (aCons (dVar 0) (aCons (dC (.ty "str")) aNil))))) (S6 (some (.str (tx L))) none none none) [] = .ok false [] := by
    generalize tx L = z
    rfl
  have e2 : dOp kIxU spE (dNeg (dC (.int 1))) (S6 (some (.str (tx L))) none none none) [] = .ok (.str (tx last)) [.lst (sL (ini ++ [last]))] := by
    refine op_of (sp _ [] rfl) rfl ?_
    show kIxU (.ref 0) (.int (-1)) [.lst (sL (ini ++ [last]))] = _
    have : kIx (.ref 0) (.int (-1)) [.lst (sL (ini ++ [last]))] = some (.str (tx last), [.lst (sL (ini ++ [last]))]) := by
      unfold kIx
      show ((L2.atI (sL (ini ++ [last])) (-1)).map _) = _
      rw [eL, Wr.atI_last]
      rfl
    unfold kIxU
    rw [this]
  have t1 := (or_f (u := dTest (dOp kNe (dOp kIxU spE (dNeg (dC (.int 1)))) (dC (.str (Str.mk #[]))))) e1).trans (tst_of (op_of e2 (show dC (.str (Str.mk #[])) _ _ = .ok (.str (tx [])) _ from rfl) (ne_tx hlast (by simp) _)))
  by_cases hz : last = []
  · rw [decide_eq_true hz] at t1
    have a1 : rp1 (S6 (some (.str (tx L))) none none none) [] = .nx (S6 (some (.str (tx L))) none none none) [.lst (sL (ini ++ [last]))] := (if_f t1).trans rfl
    have ei : dIt (dSl spE oNone (oSome (dNeg (dC (.int 1))))) (S6 (some (.str (tx L))) (some (.ref 2)) (some (.ref 3)) none) [.lst (sL (ini ++ [last])), .lst prs6, nums6, PI zb0.v 4 5, .lst [], .lst []] = .ok (.lst 7) (hG (sL (ini ++ [last])) (sL ini) ([], zb0)) := by
      have e : dSl spE oNone (oSome (dNeg (dC (.int 1)))) (S6 (some (.str (tx L))) (some (.ref 2)) (some (.ref 3)) none) [.lst (sL (ini ++ [last])), .lst prs6, nums6, PI zb0.v 4 5, .lst [], .lst []] = .ok (.ref 7) (hG (sL (ini ++ [last])) (sL ini) ([], zb0)) := by
        refine sl_o (sp _ _ rfl) (lo := none) (hi := some (-1)) rfl rfl ?_
        show Rs.ok (Va.ref 7) ([.lst (sL (ini ++ [last])), .lst prs6, nums6, PI zb0.v 4 5, .lst [], .lst [], .lst (sL (ini ++ [last]))] ++ [Ob.lst (cutA (sL (ini ++ [last])) none (some (-1)))]) = _
        rw [eL, cut_init]
        rfl
      rw [u_it, e]
      rfl
    have h7 : ∀ s, (hG (sL (ini ++ [last])) (sL ini) s)[7]? = some (.lst (sL ini)) := fun s => by unfold hG; split <;> rfl
    have fold := forC_foldI (σ := Zl × B6) (n0 := 8) (live := [1, 4]) (it := .lst 7) (t := .nm 5) (body := rpX) (fun _ => sR none) (hG (sL (ini ++ [last])) (sL ini)) ini (fun l => .str (tx l)) f Inv Ex106 (fun r ⟨s, h, e⟩ => .inl ⟨106, s, h, e⟩)
      (fun j s _ => by
        show (match (hG (sL (ini ++ [last])) (sL ini) s)[7]? with | some (.lst xs) => some (xs[j]?) | _ => none) = _
        rw [h7]
        show some ((ini.map fun l => Va.str (tx l))[j]?) = _
        rw [List.getElem?_map])
      (fun j s l hl hi => ⟨sR (some (.str (tx l))), rfl, step _ _ fA fI j s l hl hi⟩)
      (ini.length + 1) 0 ([], zb0) (S6 (some (.str (tx L))) (some (.ref 2)) (some (.ref 3)) none) (hG (sL (ini ++ [last])) (sL ini) ([], zb0)) (by omega) (by omega) h0
      (cl_0 (o5 := .lst []) (show refsO (.lst _) = [] from fA) rfl rfl (show refsO (.lst _) = [] from fA) (show refsO (.lst _) = [] from fI) (refs_book zb0) rfl rfl)
    rw [List.drop_zero] at fold
    have e4 : rp4 (S6 (some (.str (tx L))) (some (.ref 2)) (some (.ref 3)) none) [.lst (sL (ini ++ [last])), .lst prs6, nums6, PI zb0.v 4 5, .lst [], .lst []] = forC 8 [1, 4] (.lst 7) (.nm 5) rpX (ini.length + 1) 0 (S6 (some (.str (tx L))) (some (.ref 2)) (some (.ref 3)) none) (hG (sL (ini ++ [last])) (sL ini) ([], zb0)) := by
      show dForC _ _ _ _ _ _ = _
      rw [u_for, ei, u_fo1]
      have : itLen (.lst 7) (hG (sL (ini ++ [last])) (sL ini) ([], zb0)) = ini.length := by
        show (match (hG (sL (ini ++ [last])) (sL ini) ([], zb0))[7]? with | some (.lst xs) => xs.length | _ => 0) = _
        rw [h7]
        simp [sL]
      rw [this]
      rfl
    rcases fold with ⟨s', hr, hi, ef⟩ | ⟨hr, s, h, ef⟩
    · left
      refine ⟨hz, s', hr, hi, ?_⟩
      rw [go_ _ (seq_nx a1 (seq_nx (rd_2 _ _) (seq_nx (rd_3 _ _) (seq_nx (e4.trans ef) (show dRet (dVar 4) (sR none) _ = .rt (.ref 3) _ from rfl)))))]
      exact end_G s'
    · right
      refine ⟨.inr hr, 106, h, .inr rfl, ?_⟩
      rw [go_ _ (seq_nx a1 (seq_nx (rd_2 _ _) (seq_nx (rd_3 _ _) (ex_seqA (e4.trans ef)))))]
      rfl
  · rw [decide_eq_false hz] at t1
    right
    refine ⟨.inl hz, 6, [.lst (sL (ini ++ [last]))], .inl rfl, ?_⟩
    rw [go_ _ (ex_seqA ((if_t t1).trans rfl))]
    rfl
theorem rp_0 {L : List Nat} (hL : Xt.OkL L) {ini : List (List Nat)} {last : List Nat} (es : splA 10 [] L = ini ++ [last]) (hn : L.length ≤ 500) :
    (last = [] ∧ ∃ ps b, runT ini = some (ps, b) ∧ Run ps b ∧ 6 * ps.length ≤ L.length ∧ K43.read_poll_t [.str (tx L)] [] = .ok (.ref 0) (H3 b.v (PV (vv ps)) [])) ∨ ((last ≠ [] ∨ runT ini = none) ∧ ∃ c h, (c = 6 ∨ c = 106) ∧ K43.read_poll_t [.str (tx L)] [] = .ex c h) := by
  have hlen : ∀ l ∈ ini, l.length ≤ 10000 := fun l hl => by
    have := spl_len 10 L [] l (by rw [es]; simp [hl])
    have := hL.1
    simp at *
    omega
  have hcok : ∀ l ∈ ini, ∀ c ∈ l, c < 0x110000 := fun l hl => spl_mem 10 L [] (fun c => c < 0x110000) hL.2 (fun x hx => nomatch hx) l (by rw [es]; simp [hl])
  rcases rp_gen hL es go (fun j s => Run s.1 s.2 ∧ s.1.map (·.1.ln) = ini.take j) ⟨Run.nil, by simp⟩ (fun A I fA fI j s l hl hi => by
    have hm : l ∈ ini := List.mem_of_getElem? hl
    have few := few_steps es hi.2
    rcases turn_G fA fI s hi.1 (by omega) l (hlen l hm) (hcok l hm) with ⟨s', g1, ⟨g2, g3⟩, g4⟩ | g
    · refine .inl ⟨s', g1, ⟨g2, ?_⟩, g4⟩
      obtain ⟨d, h1, _, rfl⟩ := go_ln g1
      rw [List.take_add_one, hl, ← hi.2]
      simp [(parse_ln h1).1]
    · exact .inr g) with ⟨hz, ⟨ps, b⟩, hr, ⟨R, hl⟩, e⟩ | h
  · exact .inl ⟨hz, ps, b, hr, R, few_steps es hl, e⟩
  · exact .inr h
end Yp
set_option Elab.async false
set_option linter.all false
set_option maxRecDepth 100000
set_option maxHeartbeats 4000000
set_option autoImplicit false
namespace Yp
open PySem PySem.Spec PyProof.Rows L2 Wr Pg Xt
theorem goB_go (s : Zl × B6) (l : List Nat) : goB s.2 l = (go s l).map (·.2) := by
  unfold goB go
  cases parse l with
  | none => rfl
  | some d =>
    show (if d.no s.2 then none else some (d.to s.2)) = Option.map _ (if d.no s.2 then none else some (s.1 ++ [(d, s.2)], d.to s.2))
    split <;> rfl
theorem foldB : ∀ (ls : List (List Nat)) (s : Zl × B6), ls.foldlM goB s.2 = (ls.foldlM go s).map (·.2)
  | [], s => rfl
  | l :: ls, s => by
    rw [List.foldlM_cons, List.foldlM_cons, goB_go]
    cases go s l with
    | none => rfl
    | some s1 => exact foldB ls s1
/-- whether a text is steps that can be -/
def canT (L : List Nat) : Bool := match (splA 10 [] L).reverse with
  | [] :: t => (runT t.reverse).isSome
  | _ => false
theorem canT_of {L last : List Nat} {ini : List (List Nat)} (es : splA 10 [] L = ini ++ [last]) : canT L = (decide (last = []) && (runT ini).isSome) := by
  unfold canT
  rw [es, List.reverse_append]
  show (match last :: ini.reverse with | [] :: t => (runT t.reverse).isSome | _ => false) = _
  cases last with
  | nil => show (runT ini.reverse.reverse).isSome = _; rw [List.reverse_reverse]; rfl
  | cons a t => rfl
abbrev cbS : Ds := (dSet 1 (dComp [3] (dIt (dCall0 _law_wishes)) (.nm 3) dYes (dM "str" kJoin (dC (.str (Str.mk #[]))) (aCons (dComp [2] (dIt (dVar 3)) (.nm 2) dYes (dOp kIxU (dC (.str (Str.mk #[97, 98, 99]))) (dVar 2))) aNil))))
abbrev cbP : Ds := (dPar [4, 5] (aCons (dOp kMul (dLst (aCons (dC (.int 0)) aNil)) (dC (.int 6))) (aCons (dM "str" kSplit (dVar 0) (aCons (dC (.str (Str.mk #[10]))) aNil)) aNil)))
abbrev cbL : Ds := dForC [1, 4, 5] (dIt (dSl (dVar 5) oNone (oSome (dNeg (dC (.int 1)))))) (.nm 6) cbB
abbrev cbR : Ds := dRet (dOp kEq (dOp kIxU (dVar 5) (dNeg (dC (.int 1)))) (dC (.str (Str.mk #[]))))
def hN : Hs := [W6', .lst [.str (tx [97]), .str (tx [98]), .str (tx [99])], .lst [.str (tx [97]), .str (tx [99]), .str (tx [98])], .lst [.str (tx [98]), .str (tx [97]), .str (tx [99])], .lst [.str (tx [98]), .str (tx [99]), .str (tx [97])], .lst [.str (tx [99]), .str (tx [97]), .str (tx [98])], .lst [.str (tx [99]), .str (tx [98]), .str (tx [97])], NM]
theorem cbS_ok (z : Va) : cbS [some z, none, none, none, none, none, none, none, none, none] [] = .nx [some z, some (.ref 7), none, none, none, none, none, none, none, none] hN := by kernel_rfl
theorem can_0 {L : List Nat} (hL : Xt.OkL L) : _law_can_be [.str (tx L)] [] = .ok (.bl (canT L)) [] := by
  obtain ⟨ini, last, es⟩ := snoc2 (splA 10 [] L) (splA_ne 10 L [])
  have hlast : ∀ c ∈ last, c < 0x110000 := spl_mem 10 L [] (fun c => c < 0x110000) hL.2 (fun x hx => nomatch hx) last (by rw [es]; simp)
  have hlen : ∀ l ∈ ini, l.length ≤ 10000 := fun l hl => by
    have := spl_len 10 L [] l (by rw [es]; simp [hl])
    have := hL.1
    simp at *
    omega
  have hcok : ∀ l ∈ ini, ∀ c ∈ l, c < 0x110000 := fun l hl => spl_mem 10 L [] (fun c => c < 0x110000) hL.2 (fun x hx => nomatch hx) l (by rw [es]; simp [hl])
  have fA : refsVs (sL (ini ++ [last])) = [] := refs_sL _
  have fI : refsVs (sL ini) = [] := refs_sL _
  have eL : sL (ini ++ [last]) = sL ini ++ [.str (tx last)] := by simp [sL]
  have go_ : ∀ r, (dSeq cbS (dSeq cbP (dSeq cbL cbR))) [some (.str (tx L)), none, none, none, none, none, none, none, none, none] [] = r → _law_can_be [.str (tx L)] [] = compact 0 (toRs r) := fun r e => by
    rw [← e]; rfl
  have e2 : cbP [some (.str (tx L)), some (.ref 7), none, none, none, none, none, none, none, none] hN = .nx [some (.str (tx L)), some (.ref 7), none, none, some (.ref 9), some (.ref 10), none, none, none, none] (hN ++ [.lst [.int 0], .lst zb0.l, .lst (sL (ini ++ [last]))]) := by
    have m : dOp kMul (dLst (aCons (dC (.int 0)) aNil)) (dC (.int 6)) [some (.str (tx L)), some (.ref 7), none, none, none, none, none, none, none, none] hN = .ok (.ref 9) (hN ++ [.lst [.int 0], .lst zb0.l]) := rfl
    have sp := m_split1 (s := [some (.str (tx L)), some (.ref 7), none, none, none, none, none, none, none, none]) (i := 0) (c := 10) (l := L) (by omega) (by have := hL.1; omega) rfl (hN ++ [.lst [.int 0], .lst zb0.l])
    rw [es] at sp
    exact par_of (arg_of m (arg_of sp arg_nil))
  have ei : dIt (dSl (dVar 5) oNone (oSome (dNeg (dC (.int 1))))) [some (.str (tx L)), some (.ref 7), none, none, some (.ref 9), some (.ref 10), none, none, none, none] (hN ++ [.lst [.int 0], .lst zb0.l, .lst (sL (ini ++ [last]))]) = .ok (.lst 11) (hC zb0 (sL (ini ++ [last])) (sL ini)) := by
    have e : dSl (dVar 5) oNone (oSome (dNeg (dC (.int 1)))) [some (.str (tx L)), some (.ref 7), none, none, some (.ref 9), some (.ref 10), none, none, none, none] (hN ++ [.lst [.int 0], .lst zb0.l, .lst (sL (ini ++ [last]))]) = .ok (.ref 11) (hC zb0 (sL (ini ++ [last])) (sL ini)) := by
      refine sl_o (x := .ref 10) (lo := none) (hi := some (-1)) rfl rfl rfl ?_
      show Rs.ok (Va.ref 11) ((hN ++ [.lst [.int 0], .lst zb0.l, .lst (sL (ini ++ [last]))]) ++ [Ob.lst (cutA (sL (ini ++ [last])) none (some (-1)))]) = _
      rw [eL, cut_init]
      rfl
    rw [u_it, e]
    rfl
  have fold := forC_fold (σ := B6) (n0 := 12) (live := [1, 4, 5]) (it := .lst 11) (t := .nm 6) (body := cbB) (fun _ => Sc none none none none) (fun b => hC b (sL (ini ++ [last])) (sL ini)) ini (fun l => .str (tx l)) goB RtF (fun r ⟨h, e⟩ => .inr ⟨.bl false, h, e⟩)
    (fun j b hj => by
      show some ((ini.map fun l => Va.str (tx l))[j]?) = _
      rw [List.getElem?_map])
    (fun b l hl => ⟨Sc (some (.str (tx l))) none none none, rfl, cb_turn fA fI b l (hlen l hl) (hcok l hl)⟩)
    (ini.length + 1) 0 zb0 [some (.str (tx L)), some (.ref 7), none, none, some (.ref 9), some (.ref 10), none, none, none, none] (hC zb0 (sL (ini ++ [last])) (sL ini)) (by omega) (by omega) (by
      have := cb_clean fA fI zb0.l rfl (live := [1, 4, 5]) (s := [some (.str (tx L)), some (.ref 7), none, none, some (.ref 9), some (.ref 10), none, none, none, none]) rfl []
      rw [List.append_nil] at this
      exact this)
  rw [List.drop_zero] at fold
  have e4 : cbL [some (.str (tx L)), some (.ref 7), none, none, some (.ref 9), some (.ref 10), none, none, none, none] (hN ++ [.lst [.int 0], .lst zb0.l, .lst (sL (ini ++ [last]))]) = forC 12 [1, 4, 5] (.lst 11) (.nm 6) cbB (ini.length + 1) 0 [some (.str (tx L)), some (.ref 7), none, none, some (.ref 9), some (.ref 10), none, none, none, none] (hC zb0 (sL (ini ++ [last])) (sL ini)) := by
    show dForC _ _ _ _ _ _ = _
    rw [u_for, ei, u_fo1]
    have : itLen (.lst 11) (hC zb0 (sL (ini ++ [last])) (sL ini)) = ini.length := by
      show (sL ini).length = _
      simp [sL]
    rw [this]
    rfl
  have ef := foldB ini ([], zb0)
  have er : runT ini = ini.foldlM go ([], zb0) := rfl
  rw [canT_of es]
  rcases fold with ⟨b, hb, f⟩ | ⟨hn, h, f⟩
  · have hs : (runT ini).isSome = true := by
      rw [ef] at hb
      rw [er]
      cases q : ini.foldlM go ([], zb0) with
      | none => rw [q] at hb; cases hb
      | some s => rfl
    have i1 : dOp kIxU (dVar 5) (dNeg (dC (.int 1))) (Sc none none none none) (hC b (sL (ini ++ [last])) (sL ini)) = .ok (.str (tx last)) (hC b (sL (ini ++ [last])) (sL ini)) := by
      refine op_of (x := .ref 10) (y := .int (-1)) rfl rfl ?_
      have : kIx (.ref 10) (.int (-1)) (hC b (sL (ini ++ [last])) (sL ini)) = some (.str (tx last), hC b (sL (ini ++ [last])) (sL ini)) := by
        unfold kIx
        show ((L2.atI (sL (ini ++ [last])) (-1)).map _) = _
        rw [eL, Wr.atI_last]
        rfl
      unfold kIxU
      rw [this]
    have e5 : cbR (Sc none none none none) (hC b (sL (ini ++ [last])) (sL ini)) = .rt (.bl (decide (last = []))) (hC b (sL (ini ++ [last])) (sL ini)) := Xt.ret_of (op_of i1 (show dC _ _ _ = .ok (.str (tx [])) _ from rfl) (eq_tx hlast (by simp) _))
    rw [go_ _ (seq_nx (cbS_ok _) (seq_nx e2 (seq_nx (e4.trans f) e5))), hs, Bool.and_true]
    exact compact_val (v := .bl _) rfl
  · have hs : (runT ini).isSome = false := by
      rw [ef] at hn
      rw [er]
      cases q : ini.foldlM go ([], zb0) with
      | none => rfl
      | some s => rw [q] at hn; cases hn
    have e5 : dSeq cbL cbR [some (.str (tx L)), some (.ref 7), none, none, some (.ref 9), some (.ref 10), none, none, none, none] (hN ++ [.lst [.int 0], .lst zb0.l, .lst (sL (ini ++ [last]))]) = .rt (.bl false) h := rt_seq (e4.trans f)
    rw [go_ _ (seq_nx (cbS_ok _) (seq_nx e2 e5)), hs, Bool.and_false]
    exact compact_val (v := .bl _) rfl
theorem can_ok {L : List Nat} (hL : Xt.OkL L) (h : Hs) : callD _law_can_be [.str (tx L)] h = .ok (.bl (canT L)) h := flat_call rfl rfl (can_0 hL) h
abbrev rdE : De := dCall K43.read_poll_t 1 (aCons (dVar 9) aNil)
def Few (L : List Nat) : Prop := L.length ≤ 500
theorem rt_ok {L : List Nat} (hL : Xt.OkL L) (hf : Few L) (wd : Nat → Str) (hw : wd 6 = Str.mk #[110, 111, 32, 116, 101, 120, 116]) {s : Sg} (hs : s[9]? = some (some (.str (tx L)))) (h : Hs) : ∃ G, dTold [0, 1, 2, 3, 4, 5, 6, 7] wd (dCall poll_text 1 (aCons rdE aNil)) s h = .ok (if canT L = true then .str (tx L) else sNX) (h ++ G) := by
  obtain ⟨ini, last, es⟩ := snoc2 (splA 10 [] L) (splA_ne 10 L [])
  have hn : L.length ≤ 500 := hf
  have ce := canT_of es
  rcases rp_0 hL es hn with ⟨hz, ps, b, hr, R, hl, e⟩ | ⟨hno, c, G, hc, e⟩
  · have ct : canT L = true := by rw [ce, hz, hr]; rfl
    rw [if_pos ct]
    have eT : ptx ps = tx L := by
      have h1 := run_lines ini ([], zb0) (ps, b) hr
      have h2 := jn_spl 10 L []
      rw [es, hz, jn_lines, List.nil_append] at h2
      unfold ptx Pg.lnL
      rw [← h2, ← (show ps.map (·.1.ln) = ini from by simpa using h1), List.flatMap_map]
    have ec : callD K43.read_poll_t [.str (tx L)] h = .ok (.ref h.length) (h ++ [PI b.v (h.length + 1) (h.length + 2), .lst (PV (vv ps)), .lst []]) := by
      have e1 : Wr.reach 300 h [] [] = [] := rfl
      have e2 : rens (idx []) [.str (tx L)] = some [.str (tx L)] := rfl
      unfold callD
      simp only [show refsVs [.str (tx L)] = [] from rfl, e1, show nodupB [] = true from rfl, if_true, e2, show selO [] h [] = some [] from rfl]
      rw [e]
      have b1 : bkI [] h.length 1 = some (h.length + 1) := by simp [bkI]
      have b2 : bkI [] h.length 2 = some (h.length + 2) := by simp [bkI]
      have e3 : ren (bkI [] h.length) (.ref 0) = some (.ref h.length) := by simp [ren, bkI]
      have e4 : renOs (bkI [] h.length) (H3 b.v (PV (vv ps)) []) = some [PI b.v (h.length + 1) (h.length + 2), .lst (PV (vv ps)), .lst []] := by
        simp [renOs, ren_PI (refs_book b) b1 b2, renO_lst (flatP1 ps), renO_lst (show refsVs [] = [] from rfl)]
      simp only [Wr.back, e3, backH, e4, mix_nil]
      rfl
    have P : Pl (h ++ [PI b.v (h.length + 1) (h.length + 2), .lst (PV (vv ps)), .lst []]) h.length (h.length + 1) (h.length + 2) ps b [] := by
      refine ⟨by omega, by omega, by omega, ?_, ?_, ?_, refs_book b, flatP1 ps, rfl⟩
      · simp
      · rw [List.getElem?_append_right (by omega)]; simp
      · rw [List.getElem?_append_right (by omega)]; simp; rfl
    have et := poll_text_pl P (by omega) (by simp) (fun p hp => R.ok6 p hp)
    rw [eT] at et
    exact ⟨_, told_ok (call_of (F := poll_text) (n := 1) (arg_of (call_of (F := K43.read_poll_t) (n := 1) (vs := [.str (tx L)]) (arg_of (var_of hs) arg_nil) rfl ec) arg_nil) rfl et)⟩
  · have ct : canT L = false := by
      rw [ce]
      rcases hno with h | h
      · rw [decide_eq_false h]; rfl
      · rw [h]; simp
    rw [ct]
    obtain ⟨G', eg⟩ := callD_exX (F := K43.read_poll_t) (args := [.str (tx L)]) (h := h) rfl e
    have ec : rdE s h = .ex c (h ++ G') := call_ex (F := K43.read_poll_t) (arg_of (var_of hs) arg_nil) rfl eg
    have ep : dCall poll_text 1 (aCons rdE aNil) s h = .ex c (h ++ G') := by
      unfold dCall
      rw [arg_ex1 ec]
      rfl
    refine ⟨G', ?_⟩
    have hc' : c % 100 = 6 := by rcases hc with rfl | rfl <;> rfl
    exact told_x ep (by rw [hc']; rfl) (by rw [hc']; exact hw)
end Yp
set_option Elab.async false
set_option linter.all false
set_option maxRecDepth 100000
set_option maxHeartbeats 4000000
set_option autoImplicit false
namespace K43
open PySem PySem.Spec PyProof.Rows L2 Wr Pg
abbrev nn : Option Va := none
abbrev sc : Option Va := some .scr
abbrev S (x0 x1 x2 x3 x4 x5 x6 x7 x8 x9 x10 x11 x12 : Option Va) : Sg := [x0, x1, x2, x3, x4, x5, x6, x7, x8, x9, x10, x11, x12]
abbrev SA (r : Nat) (x2 : Option Va) : Sg := S sc (some (.ref r)) x2 nn nn nn nn nn nn nn nn nn nn
theorem wd4 : wd (4 % 100) = Str.mk #[110, 111, 32, 116, 104, 105, 110, 103] := by decide +kernel
theorem clA {n0 : Nat} {h : Hs} {r p q : Nat} {ps : Zl} {b : B6} {ls : Zl} (A : Pl h r p q ps b ls) (O : OkN n0 h) (hn : n0 ≤ 12) {live : List Nat} {s : Sg} (hm : maskS live 0 s = SA r nn) :
    ∃ h2 r1 p1 q1, cleanS n0 live s h = some (SA r1 nn, h2) ∧ Pl h2 r1 p1 q1 ps b ls ∧ OkN h2.length h2 ∧ n0 ≤ h2.length ∧ h2.length ≤ 4 * (n0 + 1) := by
  obtain ⟨f, h2, G, O2, l1, l2, d, c⟩ := clean_ok (rs := [r]) O hm (by rw [refsF (FlS.s rfl), refsR]; rfl) (fun x hx => by rw [List.mem_singleton.mp hx]; exact Pl.okAt A) (by simp; omega)
  obtain ⟨r1, er⟩ := d r (by simp)
  obtain ⟨p1, q1, _, _, P⟩ := G.pl er A
  exact ⟨h2, r1, p1, q1, c _ (renF (FlS.s rfl) (renSR er rfl)), P, O2, l1, by simpa using l2⟩
section
variable (ns : List Int)
theorem turnA {j : Nat} (hj : j < 12) {h : Hs} {r p q : Nat} {ps : Zl} {b : B6} (A : Pl h r p q ps b []) (O : OkN 3 h) (R : Run ps b) (hl : ps.length ≤ j) :
    ∃ s2 h2 h3 r' p' q' ps' b', P_law_1 _law_did (_law_deed ns) Poll_book 3 (SA r (some (.int j))) h = .nx s2 h2 ∧ cleanS 3 [0, 1] s2 h2 = some (SA r' nn, h3) ∧ Pl h3 r' p' q' ps' b' [] ∧ OkN 3 h3 ∧ Run ps' b' ∧ ps'.length ≤ j + 1 := by
  have hb := Run.le _ rfl R
  have hj' : (j : Int) < 12 := by omega
  obtain ⟨d, hd, rd⟩ := deed_ok ns (100 + 10 * (j : Int)) (by omega) b
  obtain ⟨h1, q1, dk, P1, F1, hq1⟩ := did_pl A (by omega) (by simp) wd4 (le_up' hb (by omega)) d hd
  have R' := R.nx hd (hb.ok1 (by omega))
  have e1 : P_law_1 _law_did (_law_deed ns) Poll_book 3 (SA r (some (.int j))) h = .nx (SA r (some (.int j))) h1 := by
    unfold P_law_1
    refine exp_of (call_of (arg_of (var_of rfl) (arg_of (call_of (arg_of (var_of rfl) (arg_of ?_ (arg_of (book_e A rfl) arg_nil))) rfl (rd _)) arg_nil)) rfl dk)
    rfl
  have el : (if d.no b then ([] : Zl) else []) = [] := by split <;> rfl
  rw [el] at P1
  obtain ⟨h3, r3, p3, q3, c, P3, O3, l3, _⟩ := clA P1 (O.fr A P1 F1) (by omega) (live := [0, 1]) (s := SA r (some (.int j))) rfl
  refine ⟨_, _, h3, r3, p3, q3, _, _, e1, c, P3, O3.less l3, R', ?_⟩
  split
  · omega
  · simp; omega
abbrev s0 : Sg := S sc nn nn nn nn nn nn nn nn nn nn nn nn
def Ha : Hs := [PI zb0.v 1 2, .lst [], .lst []]
theorem st1 : dSet 1 (dMake Poll___init__) s0 [] = .nx (SA 0 nn) Ha := by kernel_rfl
theorem st1c : cleanS 0 [0, 1] (SA 0 nn) Ha = some (SA 0 nn, Ha) := by kernel_rfl
theorem plA : Pl Ha 0 1 2 [] zb0 [] := ⟨by decide, by decide, by decide, rfl, rfl, rfl, refs_book zb0, rfl, rfl⟩
theorem okA : OkN 3 Ha := fun k hk => by
  rcases (show k = 0 ∨ k = 1 ∨ k = 2 by omega) with rfl | rfl | rfl
  · exact Pl.okAt plA
  · exact (Pl.flatP plA).ok
  · exact (Pl.flatQ plA).ok
theorem loopA : ∃ h3 r p q ps b, P_law_34 _law_did (_law_deed ns) Poll_book 0 (SA 0 nn) Ha = .nx (SA r nn) h3 ∧ Pl h3 r p q ps b [] ∧ OkN 3 h3 ∧ Run ps b ∧ ps.length ≤ 12 := by
  unfold P_law_34
  obtain ⟨h1, r1, p1, q1, c1, P1, O1, l1, _⟩ := clA plA okA (by omega) (live := [0, 1]) (s := SA 0 nn) rfl
  obtain ⟨s3, h3, ⟨r, p, q, ps, b, rfl, P, O, R, l⟩, e⟩ := forT_inv (live := [0, 1]) (t := .nm 2) (body := fun n0 => P_law_1 _law_did (_law_deed ns) Poll_book n0) (di := dRng1 (aCons (dC (.int 12)) aNil)) (N := 12)
    (I := fun j s h => ∃ r p q ps b, s = SA r nn ∧ Pl h r p q ps b [] ∧ OkN 3 h ∧ Run ps b ∧ ps.length ≤ j) (s := SA 0 nn) (h := Ha) (h1 := Ha) rfl
    ⟨_, _, c1, r1, p1, q1, [], zb0, rfl, P1, O1.less l1, Run.nil, by simp⟩
    (fun j s h hj ⟨r, p, q, ps, b, es, P, O, R, l⟩ => by
      subst es
      obtain ⟨s2, h2, h3, r', p', q', ps', b', e1, e2, e3, e4, e5, e6⟩ := turnA ns hj P O R l
      exact ⟨_, s2, h2, _, _, rfl, .inl e1, e2, r', p', q', ps', b', rfl, e3, e4, e5, e6⟩)
  exact ⟨h3, r, p, q, ps, b, e, P, O, R, l⟩
end
end K43
set_option Elab.async false
set_option linter.all false
set_option maxRecDepth 100000
set_option maxHeartbeats 4000000
set_option autoImplicit false
namespace Pg
open PySem PySem.Spec PyProof.Rows L2 Wr
def od (i : Nat) (t : Int) : Int := (wl i).getD t.toNat 0
def B6.ren (x : B6) : Nat → B6
  | 0 => ⟨x.a, x.b, x.c, x.d, x.e, x.f⟩
  | 1 => ⟨x.b, x.a, x.e, x.f, x.c, x.d⟩
  | 2 => ⟨x.c, x.d, x.a, x.b, x.f, x.e⟩
  | 3 => ⟨x.e, x.f, x.b, x.a, x.d, x.c⟩
  | 4 => ⟨x.d, x.c, x.f, x.e, x.a, x.b⟩
  | _ => ⟨x.f, x.e, x.d, x.c, x.b, x.a⟩
theorem ren_ok (b : B6) (hb : b.ok) (i : Nat) (hi : i < 6) : (b.ren i).ok := by
  unfold B6.ok B99 at *
  rcases lt6 hi with rfl | rfl | rfl | rfl | rfl | rfl <;> simp only [B6.ren] <;> omega
end Pg
set_option Elab.async false
set_option linter.all false
set_option maxRecDepth 100000
set_option maxHeartbeats 4000000
set_option autoImplicit false
namespace Wr
open PySem PySem.Spec PyProof.Rows L2
def dd : List Nat → List Nat → List Nat
  | acc, [] => acc
  | acc, i :: t => if acc.contains i then dd acc t else dd (acc ++ [i]) t
theorem reach_dd (h : Hs) : ∀ (t acc : List Nat) (n : Nat), t.length < n → (∀ x ∈ t, ∃ o, h[x]? = some o ∧ refsO o = []) → reach n h t acc = dd acc t
  | [], acc, n, hn, _ => by
    cases n with
    | zero => exact absurd hn (Nat.not_lt_zero _)
    | succ n => rfl
  | i :: t, acc, n, hn, hx => by
    cases n with
    | zero => exact absurd hn (Nat.not_lt_zero _)
    | succ n =>
      have ht := fun x h => hx x (List.mem_cons_of_mem _ h)
      obtain ⟨o, e, f⟩ := hx i (List.mem_cons_self ..)
      simp only [List.length_cons] at hn
      unfold reach dd
      by_cases c : acc.contains i = true
      · rw [if_pos c, if_pos c]
        exact reach_dd h t acc n (by omega) ht
      · rw [if_neg c, if_neg c, e]
        simp only [f, List.nil_append]
        exact reach_dd h t (acc ++ [i]) n (by omega) ht
theorem selO_at {m : List Nat} {h : Hs} : ∀ (ks : List Nat) (obs : Hs), ks.map (fun i => h[i]?) = obs.map some → (∀ o ∈ obs, refsO o = []) → selO m h ks = some obs
  | [], [], _, _ => rfl
  | [], _ :: _, e, _ => by cases e
  | _ :: _, [], e, _ => by cases e
  | k :: ks, o :: obs, e, f => by
    rw [List.map_cons, List.map_cons] at e
    injection e with e1 e2
    have e3 := selO_at (m := m) ks obs e2 fun x hx => f x (List.mem_cons_of_mem _ hx)
    simp only [selO, e1, e3, show renO (idx m) o = some o from renO_low _ (nil_low (f o (List.mem_cons_self ..)))]
theorem clean_fg {n0 : Nat} {live : List Nat} {s s1 s2 : Sg} {h obs : Hs} {rs ks : List Nat} (hm : maskS live 0 s = s1) (hr : refsS s1 = rs) (hk : List.range n0 ++ (dd [] rs).filter (fun i => decide (n0 ≤ i)) = ks) (hn : nodupB ks = true) (ho : ks.map (fun i => h[i]?) = obs.map some)
    (hs : renSl (idx ks) s1 = some s2) (ff : ∀ o ∈ obs, refsO o = []) (hl : rs.length < 300) (hin : ∀ x ∈ rs, x ∈ ks) : cleanS n0 live s h = some (s2, obs) := by
  have all : ∀ x ∈ ks, ∃ o, h[x]? = some o ∧ refsO o = [] := fun x hx => by
    have : h[x]? ∈ obs.map some := by rw [← ho]; exact List.mem_map.mpr ⟨x, hx, rfl⟩
    obtain ⟨o, h1, h2⟩ := List.mem_map.mp this
    exact ⟨o, h2.symm, ff o h1⟩
  have ht : (h.take n0).flatMap refsO = [] := List.flatMap_eq_nil_iff.mpr fun o hx => by
    obtain ⟨k, hk', e⟩ := List.mem_take_iff_getElem.mp hx
    have hks : k ∈ ks := by rw [← hk]; exact List.mem_append_left _ (List.mem_range.mpr (by omega))
    obtain ⟨p, e1, e2⟩ := all k hks
    rw [List.getElem?_eq_getElem (by omega)] at e1
    cases e1
    rw [← e]; exact e2
  unfold cleanS
  simp only [hm, hr, ht, List.append_nil]
  rw [reach_dd h rs [] 300 hl (fun x hx => all x (hin x hx)), hk, if_pos hn, hs, selO_at ks obs ho ff]
end Wr
namespace Pg
open PySem PySem.Spec PyProof.Rows L2 Wr
end Pg
set_option Elab.async false
set_option linter.all false
set_option maxRecDepth 100000
set_option maxHeartbeats 4000000
set_option autoImplicit false
namespace K43
open PySem PySem.Spec PyProof.Rows L2 Wr Pg
open Xt (sL refs_sL kJoin_g m_of sl_o kSl_tx arg_ex1 sL_app)
open Yp (jn jn_len)
theorem jn_pre (c : Nat) (a w : List Nat) : ∀ t : List (List Nat), jn c ((a ++ w) :: t) = a ++ jn c (w :: t)
  | [] => rfl
  | v :: t => by
    show (a ++ w) ++ c :: jn c (v :: t) = a ++ (w ++ c :: jn c (v :: t))
    simp
theorem glue_jn (c : Nat) : ∀ (ls : List (List Nat)) (a : List Nat), (ls.map tx).foldl (fun acc p => acc ++ (tx [c]).cps ++ p.cps) a.toArray = (jn c (a :: ls)).toArray
  | [], a => by simp [jn]
  | l :: ls, a => by
    rw [List.map_cons, List.foldl_cons]
    have e : a.toArray ++ (tx [c]).cps ++ (tx l).cps = (a ++ [c] ++ l).toArray := by simp [tx]
    rw [e, glue_jn c ls, jn_pre, List.append_assoc]
    rfl
theorem join_jn (c : Nat) (ls : List (List Nat)) : Txt.join (tx [c]) (ls.map tx) = tx (jn c ls) := by
  unfold Txt.join Builtin.Str.glued
  cases ls with
  | nil => rfl
  | cons l ls =>
    rw [List.map_cons, List.drop_succ_cons, List.drop_zero]
    have := glue_jn c ls l
    show Str.mk ((ls.map tx).foldl (fun acc p => acc ++ (tx [c]).cps ++ p.cps) l.toArray) = _
    rw [this]
theorem jn_mem (c : Nat) : ∀ (ls : List (List Nat)) (P : Nat → Prop), P c → (∀ w ∈ ls, ∀ x ∈ w, P x) → ∀ x ∈ jn c ls, P x
  | [], P, _, _, x, hx => by cases hx
  | [w], P, _, h, x, hx => h w (by simp) x hx
  | w :: v :: t, P, hc, h, x, hx => by
    have hx : x ∈ w ++ c :: jn c (v :: t) := hx
    rcases List.mem_append.mp hx with hx | hx
    · exact h w (by simp) x hx
    · rcases List.mem_cons.mp hx with rfl | hx
      · exact hc
      · exact jn_mem c (v :: t) P hc (fun u hu => h u (by simp [hu])) x hx
theorem sum_le (k : Nat) (f : List Nat → Nat) : ∀ ls : List (List Nat), (∀ w ∈ ls, f w ≤ k) → (ls.map f).sum ≤ k * ls.length
  | [], _ => by simp
  | w :: t, h => by
    have a := sum_le k f t fun u hu => h u (by simp [hu])
    have b := h w (by simp)
    rw [List.map_cons, List.sum_cons, List.length_cons, Nat.mul_add]
    omega
def Good (w : List Nat) : Prop := w.length ≤ 500 ∧ ∀ c ∈ w, c < 0x110000
theorem good_tx {w : List Nat} (h : Good w) : Xt.OkL w ∧ Yp.Few w := ⟨⟨by have := h.1; omega, h.2⟩, h.1⟩
/-- the rows: short -/
def Rws (R : List (List Nat)) : Prop := R.length ≤ 13 ∧ ∀ w ∈ R, w.length ≤ 7 ∧ ∀ c ∈ w, c < 0x110000
theorem jn_good {R xs : List (List Nat)} (hR : Rws R) (hx : ∀ x ∈ xs, x ∈ R) (hl : xs.length ≤ 40) : Good (jn 10 xs) := by
  refine ⟨?_, jn_mem 10 xs (fun c => c < 0x110000) (by omega) fun w hw => (hR.2 w (hx w hw)).2⟩
  cases xs with
  | nil => exact Nat.zero_le _
  | cons a t =>
    have e := jn_len 10 (a :: t) (by simp)
    have s := sum_le 8 (fun w => w.length + 1) (a :: t) fun w hw => by have := (hR.2 w (hx w hw)).1; omega
    omega
theorem flat_len (k : Nat) : ∀ ls : List (List Nat), (∀ w ∈ ls, w.length ≤ k) → ls.flatten.length ≤ k * ls.length
  | [], _ => by simp
  | w :: t, h => by
    have a := flat_len k t fun u hu => h u (by simp [hu])
    have b := h w (by simp)
    rw [List.flatten_cons, List.length_append, List.length_cons, Nat.mul_add]
    omega
def Hc (R so : List (List Nat)) (G : Hs) : Hs := .lst (sL R) :: .lst (sL so) :: G
theorem cutA_map {α β : Type} (f : α → β) (xs : List α) (lo hi : Option Int) : cutA (xs.map f) lo hi = (cutA xs lo hi).map f := by
  unfold cutA
  rw [List.length_map, List.map_take, List.map_drop]
theorem cutA_mem {α : Type} {xs : List α} {lo hi : Option Int} {x : α} (h : x ∈ cutA xs lo hi) : x ∈ xs := by
  unfold cutA at h
  exact List.mem_of_mem_drop (List.mem_of_mem_take h)
theorem cutA_len {α : Type} (xs : List α) (lo hi : Option Int) : (cutA xs lo hi).length ≤ xs.length := by
  unfold cutA
  rw [List.length_take, List.length_drop]
  omega
/-- a slice of a list of texts -/
theorem slR {f : De} {fl fh : Dp'} {s : Sg} {h : Hs} {r : Nat} {xs : List (List Nat)} {lo hi : Option Int} (e : f s h = .ok (.ref r) h) (hr : h[r]? = some (.lst (sL xs))) (el : fl s h = .ok lo h) (eh : fh s h = .ok hi h) : dSl f fl fh s h = .ok (.ref h.length) (h ++ [.lst (sL (cutA xs lo hi))]) := by
  refine sl_o e el eh ?_
  show (match h[r]? with | some (Ob.lst xs) => Rs.ok (Va.ref h.length) (h ++ [Ob.lst (cutA xs lo hi)]) | _ => .no) = _
  rw [hr]
  show Rs.ok (Va.ref h.length) (h ++ [Ob.lst (cutA (xs.map fun l => Va.str (tx l)) lo hi)]) = _
  rw [cutA_map]
  rfl
theorem addR {h : Hs} {r q : Nat} {xs ys : List (List Nat)} (hr : h[r]? = some (.lst (sL xs))) (hq : h[q]? = some (.lst (sL ys))) (hl : xs.length + ys.length ≤ 1000) : kAdd (.ref r) (.ref q) h = some (.ref h.length, h ++ [.lst (sL (xs ++ ys))]) := by
  rw [sL_app]
  exact addLn hr hq (by simp [sL]; omega)
/-- «\n».join(E), put behind -/
theorem app_ok {R so xs : List (List Nat)} (hR : Rws R) (hso : so.length ≤ 1000) {E : De} {s : Sg} {G G' : Hs} {r : Nat} (hs : s[5]? = some (some (.ref 1))) (e : E s (Hc R so G) = .ok (.ref r) (Hc R so G')) (hr : (Hc R so G')[r]? = some (.lst (sL xs))) (hx : ∀ x ∈ xs, x ∈ R) (hl : xs.length ≤ 40) :
    dExpr (dM "list" kAppend (dVar 5) (aCons (dM "str" kJoin (dC (.str (Str.mk #[10]))) (aCons E aNil)) aNil)) s (Hc R so G) = .nx s (Hc R (so ++ [jn 10 xs]) G') := by
  have ej : dM "str" kJoin (dC (.str (Str.mk #[10]))) (aCons E aNil) s (Hc R so G) = .ok (.str (tx (jn 10 xs))) (Hc R so G') := by
    have fl := flat_len 7 xs fun w hw => (hR.2 w (hx w hw)).1
    exact m_of (o := .str (tx [10])) rfl rfl (arg_of e arg_nil) (kJoin_g hr (by show xs.flatten.length + xs.length * 1 ≤ 100000; omega) (join_jn 10 xs))
  refine exp_of (m_of (o := .ref 1) (v := .non) (var_of hs) rfl (arg_of ej arg_nil) ?_)
  have hk : okN ((sL so).length + 1) = true := decide_eq_true (by simp [sL]; omega)
  show (if okN ((sL so).length + 1) = true then some (Va.non, (Hc R so G').set 1 (.lst (sL so ++ [.str (tx (jn 10 xs))]))) else none) = _
  rw [if_pos hk]
  show some (Va.non, Ob.lst (sL R) :: .lst (sL so ++ [.str (tx (jn 10 xs))]) :: G') = _
  have : sL so ++ [.str (tx (jn 10 xs))] = sL (so ++ [jn 10 xs]) := by rw [sL_app]; rfl
  rw [this]
  rfl
abbrev SC (t : Va) (x2 x6 x7 x8 : Option Va) : Sg := S sc nn x2 (some t) (some (.ref 0)) (some (.ref 1)) x6 x7 x8 nn nn nn nn
theorem c2 {R so : List (List Nat)} {t : Va} (ft : refsV t = []) {live : List Nat} {s : Sg} {x2 x6 x7 : Option Va} (hm : maskS live 0 s = SC t x2 x6 x7 nn) (f2 : FlS x2) (f6 : FlS x6) (f7 : FlS x7) (G : Hs) : cleanS 2 live s (Hc R so G) = some (SC t x2 x6 x7 nn, Hc R so []) := by
  refine clean_to (by simp [Hc]) hm rfl (fun y hy => ?_) (fun y hy => ?_)
  · have e : refsS (SC t x2 x6 x7 nn) = [0, 1] := by
      rw [refsF (FlS.s rfl), refsF FlS.n, refsF f2, refsF (FlS.s ft), refsR, refsR, refsF f6, refsF f7]
      rfl
    rw [e] at hy
    simp at hy
    omega
  · have : List.flatMap refsO (Hc R so []) = [] := by
      simp only [Hc, List.flatMap_cons, List.flatMap_nil, Xt.refsO_sL, List.append_nil]
    rw [this] at hy
    cases hy
theorem c3 {R so tw : List (List Nat)} {t : Va} (ft : refsV t = []) {live : List Nat} {s : Sg} {x2 x6 x7 : Option Va} (hm : maskS live 0 s = SC t x2 x6 x7 (some (.ref 2))) (f2 : FlS x2) (f6 : FlS x6) (f7 : FlS x7) (G : Hs) : cleanS 2 live s (Hc R so (.lst (sL tw) :: G)) = some (SC t x2 x6 x7 (some (.ref 2)), Hc R so [.lst (sL tw)]) := by
  have e : refsS (SC t x2 x6 x7 (some (.ref 2))) = [0, 1, 2] := by
    rw [refsF (FlS.s rfl), refsF FlS.n, refsF f2, refsF (FlS.s ft), refsR, refsR, refsF f6, refsF f7, refsR]
    rfl
  refine clean_fg (s1 := SC t x2 x6 x7 (some (.ref 2))) (rs := [0, 1, 2]) (ks := [0, 1, 2]) hm e rfl rfl rfl ?_ ?_ (by simp) (by simp)
  · exact renF (FlS.s rfl) (renF FlS.n (renF f2 (renF (FlS.s ft) (renSR rfl (renSR rfl (renF f6 (renF f7 (renSR rfl rfl))))))))
  · intro o ho
    simp only [Hc, List.mem_cons, List.not_mem_nil, or_false] at ho
    rcases ho with rfl | rfl | rfl <;> exact refs_sL _
end K43
set_option Elab.async false
set_option linter.all false
set_option maxRecDepth 100000
set_option maxHeartbeats 4000000
set_option autoImplicit false
namespace K43
open PySem PySem.Spec PyProof.Rows L2 Wr Pg
open Xt (sL refs_sL kJoin_g m_of sl_o kSl_tx arg_ex1 sL_app)
open Yp (jn jn_len)
def sgs : List Nat := [97, 98, 99, 43, 45, 32, 10]
theorem sp_good (t : List Nat) (ht : t.length ≤ 240) (hc : ∀ c ∈ t, c < 0x110000) (c : Int) : ∃ L, Good L ∧ ∀ h, callD _law_spoilt [.str (tx t), .int c, .str (tx sgs)] h = .ok (.str (tx L)) h := by
  obtain ⟨z, ⟨h1, h2⟩, e⟩ := spoilt_text (tx t) (tx sgs) c (by rw [tx_len]; omega) (by decide) (by decide) (tx_ok hc) (by decide +kernel)
  have ez : z = tx z.cps.toList := by cases z; simp [tx]
  refine ⟨z.cps.toList, ⟨?_, (strOk_iff z).mp h2⟩, fun h => flat_call rfl rfl (by rw [← ez]; exact e) h⟩
  rw [tx_len t] at h1
  have : z.cps.toList.length = z.length := by simp [Str.length]
  omega
section
variable (ns : List Int) {R : List (List Nat)} (hR : Rws R) (h1 : 1 ≤ R.length) {t0 : List Nat} (ht : t0.length ≤ 240) (hc : ∀ c ∈ t0, c < 0x110000)
abbrev TV (t0 : List Nat) : Va := .str (tx t0)
theorem p11 (j : Nat) (hj : j < 4) (so : List (List Nat)) : ∃ c : Int, P_law_11 (_law_cell ns) (_law_pick ns) 2 (SC (TV t0) (some (.int j)) nn nn nn) (Hc R so []) = .nx (SC (TV t0) (some (.int j)) (some (.int c)) nn nn) (Hc R so []) := by
  obtain ⟨p, q, r⟩ := pickN ns (1720 + (j : Int)) 999983 (by omega) (by omega)
  obtain ⟨c, hcell⟩ := cell_ok ns (1700 + (j : Int)) (by omega)
  have w : ∀ h', callD (_law_cell ns) [.scr, .int (1700 + (j : Int))] h' = .ok (.int c) h' := fun h' => callD_flat rfl rfl rfl hcell
  refine ⟨c * 7919 + p, ?_⟩
  unfold P_law_11
  simp only [SC, S, Hc]
  simp (maxSteps := 10000000) (disch := first | omega | (simp only [List.length_cons, List.length_nil, List.length_append, List.length_map] <;> omega) | (with_unfolding_all rfl)) only [u_v0, u_vS, u_c, u_lft, u_op, u_op1, u_op2, u_test, u_tst, u_anil, u_acons, u_ac1, u_ac2, u_tup, u_tu1, u_lst, u_ls1, u_not, u_nt1, u_and, u_and1t, u_and1f, u_andv, u_andv1t, u_andv1f, u_or, u_or1t, u_or1f, u_orv, u_orv1t, u_orv1f, u_notv, u_nv1, u_ife, u_ife1t, u_ife1f, u_ifs, u_ifs1t, u_ifs1f, u_nx, u_ct, u_seq, u_then, u_then2, u_then3, u_drop, u_mask0, u_mask1, u_expr, u_ex1, u_ret, u_rt1, u_set, u_st1, u_call, u_ca1, u_call0, u_B, u_b1, u_chain, u_ch1, u_ch2, u_ch3t, u_ch3f, u_ch4, u_it, u_it1t, u_it1r, u_itR, u_zip, u_zi1tt, u_zi1tr, u_zi1rt, u_zi1rr, u_zi2, u_zi3, u_rng, u_rn1, u_nxtT, u_nxtL, u_nxL, u_nxtR, u_nxtZ, u_zz1, u_zz2, u_zz3, u_nxtE, u_ee1, u_ee2, u_lenT, u_lenL, u_lnL, u_lenR, u_lenZ, u_lenE, u_comp, u_co1, u_co2, u_w0, u_w1, u_compL, u_clA0, u_clA1, u_clB, u_clCt, u_clCf, u_clD, u_clE, u_yes, u_setN, u_set2, u_set3, u_asg, u_as1, u_as2, u_put, u_pu1, u_pu2, u_pu3, u_pu4, u_for, u_fo1, u_forS, u_fA, u_fB0, u_fB1, u_fC, u_con1, u_con2, u_con3, u_con4, u_M, u_me1, u_me2, u_me3, u_M2, u_mm1t, u_rev, u_rv1t, u_rv1r, u_rvL, u_newD, u_ixo, u_ixT, u_ixR, u_ixRl, u_ixRd, u_ixRf, u_gK1, u_atI, u_ixN, u_kLt, u_kLe, u_kGt, u_kGe, u_kSub, u_kAdd, u_mul, u_mulr, u_addT, u_addL, u_addL1, u_eq, u_ne, u_eq2t, u_eq2f, u_tdR, u_tdL, u_tdLL, u_tdTT, u_tdT, u_tdS0, u_tdS1, u_tdC, u_eqvB, u_eqvN, u_eqvNI, u_eqvIN, u_eqvNT, u_eqvTN, u_eqv01, u_eqv10, u_in, u_notin, u_in2lt, u_in2lf, u_in2tt, u_in2tf, u_any0, u_any1, u_lenTup, u_lenRef, u_lenR1, u_lst?, u_tupT, u_tupR, u_tpo, u_listT, u_listR, u_lso, u_intB, u_min2, u_ints?, u_ints0, u_ints1, u_icn, u_minR, u_min?, u_maxR, u_max?, u_srtR, u_srtT, u_srt?, u_sruR, u_sru?, u_sI0, u_sI1, u_iI0, u_iI1, u_sU0, u_sU1, u_iU0, u_iU1, u_sumR, u_sumT, u_sum?, u_bls?, u_bls0, u_bls1, u_bcn, u_allR, u_anyR, u_all?, u_any?, u_aB0, u_aB1, u_oB0, u_oB1, u_app, u_apL, u_ext, u_exL, u_isL, u_isL1, u_kput, u_puL, u_puN, u_puD, u_pk2, u_hasK0, u_hasK1, u_repK0, u_repK1, u_neg, u_ng1, u_whl, u_wh1t, u_wh1f, u_wh2, u_lock, u_lkA, u_lkB, u_lkC, u_lkD, u_keys, u_ke1, u_ke2, u_kys0, u_kys1, u_dt, u_df, u_ct1, u_ct2, u_g0, u_gS, u_gN, toD_non, toD_bl, toD_int, eqv_int, eqv_tup, eqv_lst, eqv_all0, eqv_all1, Option.bind_some, List.length_cons, List.length_nil, List.length_append, List.length_set, List.cons_append, List.nil_append, List.set_cons_zero, List.set_cons_succ, List.take_succ_cons, List.take_zero, List.map_cons, List.map_nil, List.reverse_cons, List.reverse_nil, List.contains_cons, List.contains_nil, Bool.true_or, Bool.or_true, Bool.false_or, Bool.or_false, Bool.true_and, Bool.and_true, Bool.false_and, Bool.and_false, Bool.not_true, Bool.not_false, if_pos, if_neg, List.sum_cons, List.sum_nil, decide_true, decide_false, beq_self_eq_true, Nat.reduceBEq, Int.reduceNeg, Nat.zero_add, Int.zero_add, Int.add_zero, Int.cast_ofNat_Int, Nat.reduceAdd, Nat.reduceSub, Nat.reduceLeDiff, Nat.lt_irrefl, Nat.reduceEqDiff, Int.reduceLT, Int.reduceLE, Int.reduceEq, Int.reduceAdd, Int.reduceSub, Int.reduceMul, Int.reduceToNat, ↓reduceIte, not_false_eq_true, not_true_eq_false, Int.zero_le_ofNat, Nat.min_eq_left, Nat.min_eq_right, y_seqT, y_thT1, y_thT2, y_thT3, y_thT4, y_td1, y_base, y_forT, y_foT, y_cleanS, y_cs0, y_cs1, y_cs2, y_cs3, y_kM0, y_kM1, y_rH0, y_rH1, y_rS0, y_rSn, y_rSs, y_rVr, y_rVn, y_ren, y_rVb, y_reb, y_rVi, y_rei, y_rVs, y_res, y_rVy, y_rey, y_rVg, y_reg, y_rVc, y_rec, y_rVx, y_rex, y_rVt, y_rVs0, y_rVs1, y_rOl, y_rOd, y_rOt, y_rOu, y_rK0, y_rK1, y_rc0, y_rc1, y_rc2, y_nd0, y_nd1, y_rn, y_rn0, y_rn1, y_rn0s, y_rn1s, y_rer, y_rnr, y_ret, y_rnt, y_rs0, y_rs1, y_rnc, y_ix0, y_ix1, y_so0, y_so1, y_sl1, y_sl2, y_roL, y_roL1, y_roK, y_roK1, y_rk0, y_rk1, y_rkc, y_rg0, y_rgS, u_ga, u_ga0, u_setTR, u_setR, u_sE0, u_sE1, u_par, u_pa1, u_isnot1, u_isnot2, refs_rule, refs_book, refs_rows, refs_intsF, rens_intsF, ren_rule, ren_book, rens_rows, u_enum, u_enmR, u_enmT, u_en2, u_mulL, u_mlL0, u_mlL1, u_mlL2, u_mlL3, u_mlL6, u_maxT, u_mxT, refs_l, rens_l, refs_wv, ren_wv, List.append_nil, w, r]
include ht hc
theorem p9 (j : Nat) (c : Int) (so : List (List Nat)) (hso : so.length ≤ 100) : ∃ w, Good w ∧ P_law_9 _law_spoilt 2 (SC (TV t0) (some (.int j)) (some (.int c)) nn nn) (Hc R so []) = .nx (SC (TV t0) (some (.int j)) (some (.int c)) nn nn) (Hc R (so ++ [w]) []) := by
  obtain ⟨L, hL, e⟩ := sp_good t0 ht hc c
  refine ⟨L, hL, ?_⟩
  unfold P_law_9
  refine exp_of (m_of (o := .ref 1) (v := .non) rfl rfl (arg_of (call_of (F := _law_spoilt) (vs := [.str (tx t0), .int c, .str (tx sgs)]) rfl rfl (e _)) arg_nil) ?_)
  have hk : okN ((sL so).length + 1) = true := decide_eq_true (by simp [sL]; omega)
  show (if okN ((sL so).length + 1) = true then some (Va.non, (Hc R so []).set 1 (.lst (sL so ++ [.str (tx L)]))) else none) = _
  rw [if_pos hk]
  show some (Va.non, [Ob.lst (sL R), .lst (sL so ++ [.str (tx L)])]) = _
  have : sL so ++ [.str (tx L)] = sL (so ++ [L]) := by rw [sL_app]; rfl
  rw [this]
  rfl
omit ht hc
include h1
theorem p7 (j : Nat) (hj : j < 4) (so : List (List Nat)) : ∃ a : Nat, a < R.length ∧ P_law_7 (_law_pick ns) 2 (SC (TV t0) (some (.int j)) nn nn nn) (Hc R so []) = .nx (SC (TV t0) (some (.int j)) nn (some (.int a)) nn) (Hc R so []) := by
  obtain ⟨p, q, r⟩ := pickN ns (1740 + (j : Int)) (R.length : Nat) (by omega) (by omega)
  refine ⟨p, by omega, ?_⟩
  unfold P_law_7
  have el : dB kLen (aCons (dVar 4) aNil) (SC (TV t0) (some (.int j)) nn nn nn) (Hc R so []) = .ok (.int (R.length : Nat)) (Hc R so []) := by
    refine b_of (vs := [.ref 0]) rfl ?_
    show some (Va.int (((sL R).length : Nat) : Int), Hc R so []) = _
    simp [sL]
  exact set_of (call_of (F := _law_pick ns) (vs := [.scr, .int (1740 + (j : Int)), .int (R.length : Nat)]) (arg_of rfl (arg_of rfl (arg_of el arg_nil))) rfl (r _))
omit h1
theorem p6 (a : Nat) (so : List (List Nat)) : P_law_6 2 (SC (TV t0) nn nn (some (.int a)) nn) (Hc R so []) = .nx (SC (TV t0) nn nn (some (.int a)) (some (.ref 2))) (Hc R so [.lst (sL (cutA R (some (a : Int)) (some ((a : Int) + 2))))]) := by
  unfold P_law_6
  exact set_of (slR (r := 0) (xs := R) (lo := some (a : Int)) (hi := some ((a : Int) + 2)) rfl rfl rfl rfl)
include hR
/-- one row left out, one told twice, two exchanged -/
theorem p5 (a : Nat) (so tw : List (List Nat)) (hso : so.length ≤ 100) (htw : ∀ w ∈ tw, w ∈ R) (ltw : tw.length ≤ 13) : ∃ so' G, (∀ w ∈ so', w ∈ so ∨ Good w) ∧ so'.length = so.length + 3 ∧ P_law_5 2 (SC (TV t0) nn nn (some (.int a)) (some (.ref 2))) (Hc R so [.lst (sL tw)]) = .nx (SC (TV t0) nn nn (some (.int a)) (some (.ref 2))) (Hc R so' G) := by
  have cl := cutA_len (α := List Nat) R
  have hl := hR.1
  have e4 : ∀ so, dOp kAdd (dSl (dVar 4) oNone (oSome (dVar 7))) (dSl (dVar 4) (oSome (dOp kAdd (dVar 7) (dC (.int 1)))) oNone) (SC (TV t0) nn nn (some (.int a)) (some (.ref 2))) (Hc R so [.lst (sL tw)]) = .ok (.ref 5) (Hc R so [.lst (sL tw), .lst (sL (cutA R none (some (a : Int)))), .lst (sL (cutA R (some ((a : Int) + 1)) none)), .lst (sL (cutA R none (some (a : Int)) ++ cutA R (some ((a : Int) + 1)) none))]) := fun so => by
    have q1 := cl none (some (a : Int))
    have q2 := cl (some ((a : Int) + 1)) none
    have a1 : dSl (dVar 4) oNone (oSome (dVar 7)) (SC (TV t0) nn nn (some (.int a)) (some (.ref 2))) (Hc R so [.lst (sL tw)]) = .ok (.ref 3) (Hc R so [.lst (sL tw), .lst (sL (cutA R none (some (a : Int))))]) := slR (r := 0) (xs := R) (lo := none) (hi := some (a : Int)) rfl rfl rfl rfl
    have a2 : dSl (dVar 4) (oSome (dOp kAdd (dVar 7) (dC (.int 1)))) oNone (SC (TV t0) nn nn (some (.int a)) (some (.ref 2))) (Hc R so [.lst (sL tw), .lst (sL (cutA R none (some (a : Int))))]) = .ok (.ref 4) (Hc R so [.lst (sL tw), .lst (sL (cutA R none (some (a : Int)))), .lst (sL (cutA R (some ((a : Int) + 1)) none))]) := slR (r := 0) (xs := R) (lo := some ((a : Int) + 1)) (hi := none) rfl rfl rfl rfl
    exact op_of a1 a2 (addR (r := 3) (q := 4) rfl rfl (by omega))
  have e3 : ∀ so, dOp kAdd (dSl (dVar 4) oNone (oSome (dOp kAdd (dVar 7) (dC (.int 1))))) (dSl (dVar 4) (oSome (dVar 7)) oNone) (SC (TV t0) nn nn (some (.int a)) (some (.ref 2))) (Hc R so [.lst (sL tw)]) = .ok (.ref 5) (Hc R so [.lst (sL tw), .lst (sL (cutA R none (some ((a : Int) + 1)))), .lst (sL (cutA R (some (a : Int)) none)), .lst (sL (cutA R none (some ((a : Int) + 1)) ++ cutA R (some (a : Int)) none))]) := fun so => by
    have q1 := cl none (some ((a : Int) + 1))
    have q2 := cl (some (a : Int)) none
    have a1 : dSl (dVar 4) oNone (oSome (dOp kAdd (dVar 7) (dC (.int 1)))) (SC (TV t0) nn nn (some (.int a)) (some (.ref 2))) (Hc R so [.lst (sL tw)]) = .ok (.ref 3) (Hc R so [.lst (sL tw), .lst (sL (cutA R none (some ((a : Int) + 1))))]) := slR (r := 0) (xs := R) (lo := none) (hi := some ((a : Int) + 1)) rfl rfl rfl rfl
    have a2 : dSl (dVar 4) (oSome (dVar 7)) oNone (SC (TV t0) nn nn (some (.int a)) (some (.ref 2))) (Hc R so [.lst (sL tw), .lst (sL (cutA R none (some ((a : Int) + 1))))]) = .ok (.ref 4) (Hc R so [.lst (sL tw), .lst (sL (cutA R none (some ((a : Int) + 1)))), .lst (sL (cutA R (some (a : Int)) none))]) := slR (r := 0) (xs := R) (lo := some (a : Int)) (hi := none) rfl rfl rfl rfl
    exact op_of a1 a2 (addR (r := 3) (q := 4) rfl rfl (by omega))
  have e2 : ∀ so, dOp kAdd (dOp kAdd (dSl (dVar 4) oNone (oSome (dVar 7))) (dRev (dVar 8))) (dSl (dVar 4) (oSome (dOp kAdd (dVar 7) (dC (.int 2)))) oNone) (SC (TV t0) nn nn (some (.int a)) (some (.ref 2))) (Hc R so [.lst (sL tw)]) = .ok (.ref 7) (Hc R so [.lst (sL tw), .lst (sL (cutA R none (some (a : Int)))), .lst (sL tw.reverse), .lst (sL (cutA R none (some (a : Int)) ++ tw.reverse)), .lst (sL (cutA R (some ((a : Int) + 2)) none)), .lst (sL ((cutA R none (some (a : Int)) ++ tw.reverse) ++ cutA R (some ((a : Int) + 2)) none))]) := fun so => by
    have q1 := cl none (some (a : Int))
    have q2 := cl (some ((a : Int) + 2)) none
    have a1 : dSl (dVar 4) oNone (oSome (dVar 7)) (SC (TV t0) nn nn (some (.int a)) (some (.ref 2))) (Hc R so [.lst (sL tw)]) = .ok (.ref 3) (Hc R so [.lst (sL tw), .lst (sL (cutA R none (some (a : Int))))]) := slR (r := 0) (xs := R) (lo := none) (hi := some (a : Int)) rfl rfl rfl rfl
    have a2 : dRev (dVar 8) (SC (TV t0) nn nn (some (.int a)) (some (.ref 2))) (Hc R so [.lst (sL tw), .lst (sL (cutA R none (some (a : Int))))]) = .ok (.ref 4) (Hc R so [.lst (sL tw), .lst (sL (cutA R none (some (a : Int)))), .lst (sL tw.reverse)]) := by
      show Rs.ok (Va.ref 4) (Hc R so [.lst (sL tw), .lst (sL (cutA R none (some (a : Int)))), .lst (sL tw).reverse]) = _
      unfold sL
      rw [List.map_reverse]
    have a3 := op_of a1 a2 (addR (r := 3) (q := 4) (xs := cutA R none (some (a : Int))) (ys := tw.reverse) rfl rfl (by rw [List.length_reverse]; omega))
    have a4 : dSl (dVar 4) (oSome (dOp kAdd (dVar 7) (dC (.int 2)))) oNone (SC (TV t0) nn nn (some (.int a)) (some (.ref 2))) (Hc R so [.lst (sL tw), .lst (sL (cutA R none (some (a : Int)))), .lst (sL tw.reverse), .lst (sL (cutA R none (some (a : Int)) ++ tw.reverse))]) = .ok (.ref 6) (Hc R so [.lst (sL tw), .lst (sL (cutA R none (some (a : Int)))), .lst (sL tw.reverse), .lst (sL (cutA R none (some (a : Int)) ++ tw.reverse)), .lst (sL (cutA R (some ((a : Int) + 2)) none))]) := slR (r := 0) (xs := R) (lo := some ((a : Int) + 2)) (hi := none) rfl rfl rfl rfl
    exact op_of a3 a4 (addR (r := 5) (q := 6) rfl rfl (by rw [List.length_append, List.length_reverse]; omega))
  have m4 : ∀ x ∈ cutA R none (some (a : Int)) ++ cutA R (some ((a : Int) + 1)) none, x ∈ R := fun x hx => (List.mem_append.mp hx).elim cutA_mem cutA_mem
  have m3 : ∀ x ∈ cutA R none (some ((a : Int) + 1)) ++ cutA R (some (a : Int)) none, x ∈ R := fun x hx => (List.mem_append.mp hx).elim cutA_mem cutA_mem
  have m2 : ∀ x ∈ (cutA R none (some (a : Int)) ++ tw.reverse) ++ cutA R (some ((a : Int) + 2)) none, x ∈ R := fun x hx => (List.mem_append.mp hx).elim (fun hx => (List.mem_append.mp hx).elim cutA_mem fun h => htw x (List.mem_reverse.mp h)) cutA_mem
  have q1 := cl none (some (a : Int))
  have q2 := cl (some ((a : Int) + 1)) none
  have q3 := cl none (some ((a : Int) + 1))
  have q4 := cl (some (a : Int)) none
  have q5 := cl (some ((a : Int) + 2)) none
  have l4 : (cutA R none (some (a : Int)) ++ cutA R (some ((a : Int) + 1)) none).length ≤ 40 := by rw [List.length_append]; omega
  have l3 : (cutA R none (some ((a : Int) + 1)) ++ cutA R (some (a : Int)) none).length ≤ 40 := by rw [List.length_append]; omega
  have l2 : ((cutA R none (some (a : Int)) ++ tw.reverse) ++ cutA R (some ((a : Int) + 2)) none).length ≤ 40 := by rw [List.length_append, List.length_append, List.length_reverse]; omega
  have s4 := app_ok hR (so := so) (s := SC (TV t0) nn nn (some (.int a)) (some (.ref 2))) (by omega) rfl (e4 so) rfl m4 l4
  have s3 := app_ok hR (so := so ++ [jn 10 (cutA R none (some (a : Int)) ++ cutA R (some ((a : Int) + 1)) none)]) (s := SC (TV t0) nn nn (some (.int a)) (some (.ref 2))) (by simp; omega) rfl (e3 _) rfl m3 l3
  have s2 := app_ok hR (so := so ++ [jn 10 (cutA R none (some (a : Int)) ++ cutA R (some ((a : Int) + 1)) none)] ++ [jn 10 (cutA R none (some ((a : Int) + 1)) ++ cutA R (some (a : Int)) none)]) (s := SC (TV t0) nn nn (some (.int a)) (some (.ref 2))) (by simp; omega) rfl (e2 _) rfl m2 l2
  refine ⟨so ++ [jn 10 (cutA R none (some (a : Int)) ++ cutA R (some ((a : Int) + 1)) none)] ++ [jn 10 (cutA R none (some ((a : Int) + 1)) ++ cutA R (some (a : Int)) none)] ++ [jn 10 ((cutA R none (some (a : Int)) ++ tw.reverse) ++ cutA R (some ((a : Int) + 2)) none)], [.lst (sL tw), .lst (sL (cutA R none (some (a : Int)))), .lst (sL tw.reverse), .lst (sL (cutA R none (some (a : Int)) ++ tw.reverse)), .lst (sL (cutA R (some ((a : Int) + 2)) none)), .lst (sL ((cutA R none (some (a : Int)) ++ tw.reverse) ++ cutA R (some ((a : Int) + 2)) none))], ?_, ?_, ?_⟩
  rotate_left 2
  · unfold P_law_5
    have b4 : P_law_4 2 (SC (TV t0) nn nn (some (.int a)) (some (.ref 2))) (Hc R so [.lst (sL tw)]) = _ := s4
    have b3 : P_law_3 2 (SC (TV t0) nn nn (some (.int a)) (some (.ref 2))) (Hc R _ [.lst (sL tw)]) = _ := s3
    have b2 : P_law_2 2 (SC (TV t0) nn nn (some (.int a)) (some (.ref 2))) (Hc R _ [.lst (sL tw)]) = _ := s2
    refine stepT b4 (c3 (tw := tw) rfl (x2 := nn) (x6 := nn) (x7 := some (.int a)) rfl FlS.n FlS.n (FlS.s rfl) _) ?_
    refine stepT b3 (c3 (tw := tw) rfl (x2 := nn) (x6 := nn) (x7 := some (.int a)) rfl FlS.n FlS.n (FlS.s rfl) _) ?_
    exact b2
  · intro w hw
    rcases List.mem_append.mp hw with hw | hw
    · rcases List.mem_append.mp hw with hw | hw
      · rcases List.mem_append.mp hw with hw | hw
        · exact .inl hw
        · rw [List.mem_singleton.mp hw]; exact .inr (jn_good hR m4 l4)
      · rw [List.mem_singleton.mp hw]; exact .inr (jn_good hR m3 l3)
    · rw [List.mem_singleton.mp hw]; exact .inr (jn_good hR m2 l2)
  · simp
include h1 ht hc
theorem turnC (j : Nat) (hj : j < 4) (so : List (List Nat)) (hso : so.length ≤ 90) : ∃ so' s2 h2, (∀ w ∈ so', w ∈ so ∨ Good w) ∧ so'.length = so.length + 4 ∧ P_law_12 (_law_cell ns) (_law_pick ns) _law_spoilt 2 (SC (TV t0) (some (.int j)) nn nn nn) (Hc R so []) = .nx s2 h2 ∧ cleanS 2 [0, 3, 4, 5] s2 h2 = some (SC (TV t0) nn nn nn nn, Hc R so' []) := by
  obtain ⟨c, a11⟩ := p11 ns (R := R) (t0 := t0) j hj so
  obtain ⟨w, gw, a9⟩ := p9 (R := R) ht hc j c so (by omega)
  obtain ⟨a, ha, a7⟩ := p7 ns (R := R) h1 (t0 := t0) j hj (so ++ [w])
  have a6 := p6 (R := R) (t0 := t0) a (so ++ [w])
  have q := cutA_len R (some (a : Int)) (some ((a : Int) + 2))
  obtain ⟨so', G, k1, k2, a5⟩ := p5 hR (t0 := t0) a (so ++ [w]) (cutA R (some (a : Int)) (some ((a : Int) + 2))) (by simp; omega) (fun _ h => cutA_mem h) (by have := hR.1; omega)
  refine ⟨so', _, _, fun v hv => ?_, by rw [k2]; simp, ?_, c2 (t := TV t0) rfl (x2 := nn) (x6 := nn) (x7 := nn) (s := SC (TV t0) nn nn (some (.int a)) (some (.ref 2))) rfl FlS.n FlS.n FlS.n G⟩
  · rcases k1 v hv with h | h
    · rcases List.mem_append.mp h with h | h
      · exact .inl h
      · rw [List.mem_singleton.mp h]; exact .inr gw
    · exact .inr h
  · unfold P_law_12
    refine stepT a11 (c2 (t := TV t0) rfl (x2 := some (.int j)) (x6 := some (.int c)) (x7 := nn) rfl (FlS.s rfl) (FlS.s rfl) FlS.n []) ?_
    unfold P_law_10
    refine stepT a9 (c2 (t := TV t0) rfl (x2 := some (.int j)) (x6 := nn) (x7 := nn) rfl (FlS.s rfl) FlS.n FlS.n []) ?_
    unfold P_law_8
    refine stepT a7 (c2 (t := TV t0) rfl (x2 := nn) (x6 := nn) (x7 := some (.int a)) rfl FlS.n FlS.n (FlS.s rfl) []) ?_
    exact stepT a6 (c3 (t := TV t0) rfl (x2 := nn) (x6 := nn) (x7 := some (.int a)) rfl FlS.n FlS.n (FlS.s rfl) []) a5
theorem loopC : ∃ so, (∀ w ∈ so, w = t0 ∨ Good w) ∧ so.length ≤ 17 ∧ P_law_29 (_law_cell ns) (_law_pick ns) _law_spoilt 0 (SC (TV t0) nn nn nn nn) (Hc R [t0] []) = .nx (SC (TV t0) nn nn nn nn) (Hc R so []) := by
  unfold P_law_29
  obtain ⟨s3, h3, ⟨so, rfl, rfl, g, l⟩, e⟩ := forT_inv (live := [0, 3, 4, 5]) (t := .nm 2) (body := fun n0 => P_law_12 (_law_cell ns) (_law_pick ns) _law_spoilt n0) (di := dRng1 (aCons (dC (.int 4)) aNil)) (N := 4)
    (I := fun j s h => ∃ so, s = SC (TV t0) nn nn nn nn ∧ h = Hc R so [] ∧ (∀ w ∈ so, w = t0 ∨ Good w) ∧ so.length = 1 + 4 * j) (s := SC (TV t0) nn nn nn nn) (h := Hc R [t0] []) (h1 := Hc R [t0] []) rfl
    ⟨_, _, c2 (t := TV t0) rfl (x2 := nn) (x6 := nn) (x7 := nn) rfl FlS.n FlS.n FlS.n [], [t0], rfl, rfl, fun w hw => .inl (List.mem_singleton.mp hw), rfl⟩
    (fun j s h hj ⟨so, es, eh, g, l⟩ => by
      subst es eh
      obtain ⟨so', s2, h2, k1, k2, k3, k4⟩ := turnC ns hR h1 ht hc j hj so (by omega)
      exact ⟨_, s2, h2, _, _, rfl, .inl k3, k4, so', rfl, rfl, fun w hw => (k1 w hw).elim (g w) .inr, by omega⟩)
  exact ⟨so, g, by omega, e⟩
end
end K43
set_option Elab.async false
set_option linter.all false
set_option maxRecDepth 100000
set_option maxHeartbeats 4000000
set_option autoImplicit false
namespace Yp
open PySem PySem.Spec PyProof.Rows L2 Wr Pg Xt
def bA (i : Nat) : B6 := ⟨(i : Nat), 0, 0, 0, 0, 0⟩
def stA (j : Nat) : Zl × B6 := ((List.range j).map fun i => (Dd.add 0, bA i), bA j)
def lA : List Nat := [43, 32, 97, 98, 99]
def big : List Nat := (List.replicate 100 (lA ++ [10])).flatten
theorem big_ok : big.length ≤ 10000 ∧ ∀ c ∈ big, c < 0x110000 := by decide +kernel
theorem big_spl : splA 10 [] big = List.replicate 100 lA ++ [[]] := by decide +kernel
theorem bA_ok1 {j : Nat} (h : j ≤ 98) : (bA j).ok1 := by
  unfold B6.ok1
  simp only [bA]
  omega
theorem stA_run : ∀ j, j ≤ 99 → Run (stA j).1 (stA j).2
  | 0, _ => ⟨rfl, fun j x h => nomatch h⟩
  | j + 1, h => by
    have ih := stA_run j (by omega)
    have e : stA (j + 1) = ((stA j).1 ++ [(Dd.add 0, bA j)], (Dd.add 0).to (bA j)) := by
      unfold stA
      rw [List.range_succ, List.map_append]
      show (_, bA (j + 1)) = (_, (bA j).inc 0)
      rfl
    rw [e]
    exact ih.snoc _ ⟨show 0 < 6 by omega, show ¬ (0 = 6) by omega, bA_ok1 (by omega)⟩
theorem add_99 (P L : List Va) : Poll_add [.ref 0, .int 0] (H3 (bA 99).v P L) = .ex 1 (H3 (bA 99).v P L) := by kernel_rfl
theorem dl_99 {P L : List Va} (fP : refsVs P = []) (fL : refsVs L = []) : do_line [.ref 0, .ref 3, .ref 4] (H5 (bA 99).v P L (.add 0)) = .ex 1 (H5 (bA 99).v P L (.add 0)) := by
  have fb := refs_book (bA 99)
  have A := at5 fb fP fL (.add 0)
  have go : ∀ r, (dSeq (dIfS dl0 (dRaise 6) dNx) (dIfS dl1 (dExpr (dMeth "add" Poll_add 2 (dVar 0) (aCons (aN 1) aNil))) (dIfS dl2 (dExpr (dMeth "drop" Poll_drop 2 (dVar 0) (aCons (aN 1) aNil))) (dIfS dl3 (dExpr (dMeth "change" Poll_change 3 (dVar 0) (aCons (aN 0) (aCons (aN 1) aNil)))) (dRaise 6)))) sl (H5 (bA 99).v P L (.add 0))) = r → do_line [.ref 0, .ref 3, .ref 4] (H5 (bA 99).v P L (.add 0)) = compact 5 (toRs r) := fun r e => by rw [← e]; rfl
  obtain ⟨e0, e1, e2⟩ := dl_add (bA 99).v P L 0 (by omega)
  have fa : (aCons (aN 1) aNil) sl (H5 (bA 99).v P L (.add 0)) = .ok [.int 0] (H5 (bA 99).v P L (.add 0)) := by rw [u_acons, e2]; rfl
  have em : dMeth "add" Poll_add 2 (dVar 0) (aCons (aN 1) aNil) sl (H5 (bA 99).v P L (.add 0)) = .ex 1 (H5 (bA 99).v P L (.add 0)) :=
    (meth_at (np := 2) (r := 0) (vs := [.int 0]) rfl (A.ins _ (by decide +kernel)) fa rfl).trans (A.exc (post := [.int 0]) (by simp [refsVs, refsV]) (add_99 P L))
  rw [go _ (seq_nx ((if_f e0).trans rfl) ((if_t e1).trans (show dExpr _ sl _ = .ex 1 sl (H5 (bA 99).v P L (.add 0)) from by unfold dExpr; rw [em]; rfl)))]
  rfl
theorem rpX_x1 {h h1 h2 : Hs} {l : List Nat} {w : Nat} (hs : kSplit (.str (tx l)) [.str (tx [32])] h = some (.ref w, h1)) (e : callD do_line [.ref 3, .ref w, .ref 2] h1 = .ex 1 h2) : rpX (sR (some (.str (tx l)))) h = .ex 106 (sR (some (.str (tx l)))) h2 := by
  have : dExpr (dCall do_line 3 (aCons (dVar 4) (aCons (dM "str" kSplit (dVar 5) (aCons (dC (.str (Str.mk #[32]))) aNil)) (aCons (dVar 1) aNil)))) (sR (some (.str (tx l)))) h = .ex 1 (sR (some (.str (tx l)))) h2 := by
    unfold dExpr
    rw [rpX_c hs e]
    rfl
  unfold rpX dTryX
  rw [this]
  rfl
def goA (s : Zl × B6) (l : List Nat) : Option (Zl × B6) := if s.1.length < 99 then go s l else none
theorem stA_len (j : Nat) : (stA j).1.length = j := by simp [stA]
theorem lA_go (j : Nat) (h : j < 99) : goA (stA j) lA = some (stA (j + 1)) := by
  have hp : parse lA = some (.add 0) := ln_parse (.add 0) (show 0 < 6 by omega)
  unfold goA
  rw [if_pos (by rw [stA_len]; exact h)]
  unfold go
  rw [hp]
  show (if (Dd.add 0).no (stA j).2 then none else some ((stA j).1 ++ [(Dd.add 0, (stA j).2)], (Dd.add 0).to (stA j).2)) = _
  rw [if_neg (show ¬ (Dd.add 0).no (stA j).2 from (show ¬ (0 = 6) by omega))]
  unfold stA
  rw [List.range_succ, List.map_append]
  show some (_, (bA j).inc 0) = some (_, bA (j + 1))
  congr 2
theorem fold_A : ∀ k j, j + k = 100 → (List.replicate k lA).foldlM goA (stA j) = (if k = 0 then some (stA j) else none)
  | 0, j, _ => rfl
  | k + 1, j, h => by
    rw [List.replicate_succ, List.foldlM_cons]
    by_cases hj : j < 99
    · rw [lA_go j hj]
      show (List.replicate k lA).foldlM goA (stA (j + 1)) = _
      rw [fold_A k (j + 1) (by omega), if_neg (by omega), if_neg (by omega)]
    · have : goA (stA j) lA = none := by unfold goA; rw [if_neg (by rw [stA_len]; exact hj)]
      rw [this]
      rfl
theorem big_x : ∃ c h, (c = 6 ∨ c = 106) ∧ K43.read_poll_t [.str (tx big)] [] = .ex c h := by
  rcases rp_gen (L := big) big_ok big_spl goA (fun j s => s = stA j) rfl (fun A I fA fI j s l hl hi => by
    subst hi
    have hj : j < 100 := by have := (List.getElem?_eq_some_iff.mp hl).1; simpa using this
    have el : l = lA := by
      rw [List.getElem?_replicate, if_pos hj] at hl
      exact (Option.some.inj hl).symm
    subst el
    have hc : ∀ c ∈ lA, c < 0x110000 := by decide
    have ks : ∀ h, kSplit (.str (tx lA)) [.str (tx [32])] h = some (.ref h.length, h ++ [.lst (wds (.add 0))]) := fun h => by
      rw [kSplit_1 _ 32 (by omega) (by decide)]
      rfl
    have R := stA_run j (by omega)
    by_cases h99 : j < 99
    · left
      refine ⟨stA (j + 1), lA_go j h99, rfl, ?_⟩
      have hg := lA_go j h99
      unfold goA at hg
      rw [if_pos (by rw [stA_len]; exact h99)] at hg
      have ok1 : (stA j).2.ok1 := bA_ok1 (by omega)
      rcases turn_G1 fA fI (stA j) R (by rw [stA_len]; omega) ok1 lA (by decide) hc with ⟨s', g1, _, g4⟩ | ⟨g, _⟩
      · rw [hg] at g1
        cases g1
        exact g4
      · rw [hg] at g
        cases g
    · right
      have e99 : j = 99 := by omega
      subst e99
      refine ⟨by unfold goA; rw [if_neg (by rw [stA_len]; omega)], ?_⟩
      have fP := flatP1 (stA 99).1
      have eh : hG A I (stA 99) = [.lst A, .lst prs6, nums6, PI (bA 99).v 4 8, .lst (PV (vv (stA 99).1)), .lst [], .lst A, .lst I, .lst []] := by
        unfold hG
        rw [if_neg (fun z => by have := congrArg List.length z; rw [stA_len] at this; cases this)]
        rfl
      obtain ⟨h3, ec⟩ := dx_call1 (o0 := .lst A) (o1 := .lst prs6) (o5 := .lst []) (o6 := .lst A) (o7 := .lst I) (P := PV (vv (stA 99).1)) (L := []) fP rfl (bA 99) (ws := [[43], nmL 0]) (dl_99 fP rfl)
      exact ⟨_, h3, rpX_x1 (by rw [eh]; exact ks _) ec⟩) with ⟨_, s', hr, _⟩ | ⟨_, h⟩
  · have := fold_A 100 0 rfl
    have e0 : stA 0 = ([], zb0) := rfl
    rw [e0, hr] at this
    cases this
  · exact h
end Yp
set_option Elab.async false
set_option linter.all false
set_option maxRecDepth 100000
set_option maxHeartbeats 4000000
set_option autoImplicit false
namespace K43
open PySem PySem.Spec PyProof.Rows L2 Wr Pg
open Xt (sL refs_sL m_of sNX)
theorem wd6 : wd 6 = Str.mk #[110, 111, 32, 116, 101, 120, 116] := by decide +kernel
theorem cl0 {live : List Nat} {s s2 : Sg} (h : Hs) (hm : maskS live 0 s = s2) (hr : refsS s2 = []) : cleanS 0 live s h = some (s2, []) := clean_to (Nat.zero_le _) hm rfl (fun x hx => by rw [hr] at hx; cases hx) (fun x hx => nomatch hx)
def rwsL (ps : Zl) : List (List Nat) := ps.map (·.1.ln) ++ [[]]
theorem rws_ok {ps : Zl} (h : ps.length ≤ 12) : Rws (rwsL ps) := by
  refine ⟨by simp [rwsL]; omega, fun w hw => ?_⟩
  rcases List.mem_append.mp hw with hw | hw
  · obtain ⟨p, _, rfl⟩ := List.mem_map.mp hw
    exact ⟨ln_len p.1, fun c hc => by have := ln_lay p.1 c hc; omega⟩
  · rw [List.mem_singleton.mp hw]
    exact ⟨Nat.zero_le _, fun c hc => nomatch hc⟩
theorem t0_ok {ps : Zl} (h : ps.length ≤ 12) : (Pg.lnL ps).length ≤ 96 ∧ ∀ c ∈ Pg.lnL ps, c < 0x110000 := by
  refine ⟨by have := Pg.lnL_len ps; omega, fun c hc => ?_⟩
  obtain ⟨p, _, hc⟩ := List.mem_flatMap.mp hc
  rcases List.mem_append.mp hc with hc | hc
  · have := ln_lay p.1 c hc; omega
  · simp at hc; omega
abbrev SB (t : Va) : Sg := S sc nn nn (some t) nn nn nn nn nn nn nn nn nn
abbrev S5 (r : Nat) : Sg := S nn nn nn nn nn (some (.ref r)) nn nn nn nn nn nn nn
abbrev SN (x9 x10 : Option Va) : Sg := S nn nn nn nn nn nn nn nn nn x9 x10 nn nn
theorem p31 {ps : Zl} (h : ps.length ≤ 12) : P_law_31 0 (SB (.str (tx (Pg.lnL ps)))) [] = .nx (SC (.str (tx (Pg.lnL ps))) nn nn nn nn) (Hc (rwsL ps) [Pg.lnL ps] []) := by
  have sp := Xt.m_split1 (s := SB (.str (tx (Pg.lnL ps)))) (i := 3) (c := 10) (l := Pg.lnL ps) (by omega) (by have := (t0_ok h).1; omega) rfl []
  rw [ptx_split] at sp
  unfold P_law_31
  exact par_of (arg_of sp (arg_of (show dLst _ (SB (.str (tx (Pg.lnL ps)))) _ = .ok (.ref 1) (Hc (rwsL ps) [Pg.lnL ps] []) from rfl) arg_nil))
theorem c31 (R so : List (List Nat)) {t : Va} (ft : refsV t = []) {live : List Nat} {s : Sg} (hm : maskS live 0 s = SC t nn nn nn nn) : cleanS 0 live s (Hc R so []) = some (SC t nn nn nn nn, Hc R so []) := by
  have e : refsS (SC t nn nn nn nn) = [0, 1] := by
    rw [refsF (FlS.s rfl), refsF FlS.n, refsF FlS.n, refsF (FlS.s ft), refsR, refsR]
    rfl
  refine clean_fg (s1 := SC t nn nn nn nn) (rs := [0, 1]) (ks := [0, 1]) hm e rfl rfl rfl ?_ ?_ (by simp) (by simp)
  · exact renF (FlS.s rfl) (renF FlS.n (renF FlS.n (renF (FlS.s ft) (renSR rfl (renSR rfl rfl)))))
  · intro o ho
    simp only [Hc, List.mem_cons, List.not_mem_nil, or_false] at ho
    rcases ho with rfl | rfl <;> exact refs_sL _
theorem c30 (R so : List (List Nat)) {s : Sg} (hm : maskS [5] 0 s = S5 1) : cleanS 0 [5] s (Hc R so []) = some (S5 0, [.lst (sL so)]) :=
  clean_fg (s1 := S5 1) (rs := [1]) (ks := [1]) hm rfl rfl rfl rfl rfl (fun o ho => by rw [List.mem_singleton.mp ho]; exact refs_sL _) (by simp) (by simp)
theorem turnD {so : List (List Nat)} {w : List Nat} (hw : Good w) : ∃ s2 h2, P_law_15 poll_text read_poll_t _law_can_be 1 (SN (some (.str (tx w))) nn) [.lst (sL so)] = .nx s2 h2 ∧ cleanS 1 [] s2 h2 = some (SN nn nn, [.lst (sL so)]) := by
  have g := good_tx hw
  have fl : List.flatMap refsO [Ob.lst (sL so)] = [] := by
    simp only [List.flatMap_cons, List.flatMap_nil, Xt.refsO_sL, List.append_nil]
  obtain ⟨G, e14⟩ := Yp.rt_ok g.1 g.2 wd wd6 (s := SN (some (.str (tx w))) nn) rfl [.lst (sL so)]
  have can := Yp.can_ok g.1 [.lst (sL so)]
  have vf : refsV (if Yp.canT w = true then Va.str (tx w) else sNX) = [] := by split <;> rfl
  have a14 : P_law_14 poll_text read_poll_t 1 (SN (some (.str (tx w))) nn) [.lst (sL so)] = .nx (SN (some (.str (tx w))) (some (if Yp.canT w = true then Va.str (tx w) else sNX))) ([.lst (sL so)] ++ G) := by
    unfold P_law_14
    exact set_of e14
  have c14 : cleanS 1 [9, 10] (SN (some (.str (tx w))) (some (if Yp.canT w = true then Va.str (tx w) else sNX))) ([.lst (sL so)] ++ G) = some (SN (some (.str (tx w))) (some (if Yp.canT w = true then Va.str (tx w) else sNX)), [.lst (sL so)]) := by
    refine clean_to (by simp) rfl rfl (fun y hy => ?_) (fun y hy => by rw [fl] at hy; cases hy)
    have e : refsS (SN (some (.str (tx w))) (some (if Yp.canT w = true then Va.str (tx w) else sNX))) = [] := by
      rw [refsF FlS.n, refsF FlS.n, refsF FlS.n, refsF FlS.n, refsF FlS.n, refsF FlS.n, refsF FlS.n, refsF FlS.n, refsF FlS.n, refsF (FlS.s rfl), refsF (FlS.s vf)]
      rfl
    rw [e] at hy
    cases hy
  have a13 : P_law_13 _law_can_be 1 (SN (some (.str (tx w))) (some (if Yp.canT w = true then Va.str (tx w) else sNX))) [.lst (sL so)] = .nx (SN (some (.str (tx w))) (some (if Yp.canT w = true then Va.str (tx w) else sNX))) [.lst (sL so)] := by
    unfold P_law_13
    have tc : dTest (dCall _law_can_be 1 (aCons (dVar 9) aNil)) (SN (some (.str (tx w))) (some (if Yp.canT w = true then Va.str (tx w) else sNX))) [.lst (sL so)] = .ok (Yp.canT w) [.lst (sL so)] := tst_of (call_of (F := _law_can_be) (vs := [.str (tx w)]) rfl rfl can)
    cases hc : Yp.canT w with
    | true =>
      rw [hc] at tc
      have ei : dIf (dTest (dCall _law_can_be 1 (aCons (dVar 9) aNil))) (dVar 9) (dC (.str (Str.mk #[110, 111, 32, 116, 101, 120, 116]))) (SN (some (.str (tx w))) (some (.str (tx w)))) [.lst (sL so)] = .ok (.str (tx w)) [.lst (sL so)] := by
        unfold dIf
        rw [show dTest (dCall _law_can_be 1 (aCons (dVar 9) aNil)) (SN (some (.str (tx w))) (some (.str (tx w)))) [.lst (sL so)] = .ok true [.lst (sL so)] from tc]
        rfl
      exact (if_f (tst_of (op_of (x := .str (tx w)) rfl ei (by rw [ne_tx hw.2 hw.2, decide_eq_true rfl]; rfl)))).trans rfl
    | false =>
      rw [hc] at tc
      have ei : dIf (dTest (dCall _law_can_be 1 (aCons (dVar 9) aNil))) (dVar 9) (dC (.str (Str.mk #[110, 111, 32, 116, 101, 120, 116]))) (SN (some (.str (tx w))) (some sNX)) [.lst (sL so)] = .ok sNX [.lst (sL so)] := by
        unfold dIf
        rw [show dTest (dCall _law_can_be 1 (aCons (dVar 9) aNil)) (SN (some (.str (tx w))) (some sNX)) [.lst (sL so)] = .ok false [.lst (sL so)] from tc]
        rfl
      have en : kNe sNX sNX [.lst (sL so)] = some (.bl false, [.lst (sL so)]) := by
        show kNe (.str (tx [110, 111, 32, 116, 101, 120, 116])) (.str (tx [110, 111, 32, 116, 101, 120, 116])) _ = _
        rw [ne_tx (by simp) (by simp), decide_eq_true rfl]
        rfl
      exact (if_f (tst_of (op_of (x := sNX) rfl ei en))).trans rfl
  refine ⟨SN (some (.str (tx w))) (some (if Yp.canT w = true then Va.str (tx w) else sNX)), [.lst (sL so)], ?_, clean_to (n0 := 1) (h2 := [.lst (sL so)]) (by simp) rfl rfl (fun y hy => by cases hy) (fun y hy => by rw [fl] at hy; cases hy)⟩
  unfold P_law_15
  exact stepT a14 c14 a13
theorem p27 {so : List (List Nat)} (hg : ∀ w ∈ so, Good w) : P_law_27 poll_text read_poll_t _law_can_be 0 (S5 0) [.lst (sL so)] = .nx (SN nn nn) [.lst (sL so)] := by
  have fl : List.flatMap refsO [Ob.lst (sL so)] = [] := by
    simp only [List.flatMap_cons, List.flatMap_nil, Xt.refsO_sL, List.append_nil]
  unfold P_law_27
  have hi : dIt (dVar 5) (S5 0) [.lst (sL so)] = .ok (.lst 0) [.lst (sL so)] := rfl
  rw [y_forT, hi, y_foT]
  have hl : itLen (.lst 0) [.lst (sL so)] = so.length := by
    show (sL so).length = _
    simp [sL]
  rw [hl]
  refine forC_at (n0 := 1) (live := []) (it := .lst 0) (t := .nm 9) (body := P_law_15 poll_text read_poll_t _law_can_be 1) (fun _ => SN nn nn) (fun _ => [.lst (sL so)]) so.length ?_ ?_ (so.length + 1) 0 _ _ (by omega) (by omega) ?_
  · show some ((sL so)[so.length]?) = _
    rw [List.getElem?_eq_none (by simp [sL])]
  · intro j hj
    obtain ⟨s2, h2, a, c⟩ := turnD (so := so) (hg so[j] (List.getElem_mem hj))
    refine ⟨.str (tx so[j]), SN (some (.str (tx so[j]))) nn, s2, h2, ?_, rfl, .inl a, c⟩
    show some ((so.map fun l => Va.str (tx l))[j]?) = _
    rw [List.getElem?_map, List.getElem?_eq_getElem hj]
    rfl
  · exact clean_to (by simp) rfl rfl (fun y hy => by cases hy) (fun y hy => by rw [fl] at hy; cases hy)
def t9 : List (List Nat) := [[10], [43, 32, 97, 98, 99], [45, 32, 97, 98, 99, 10], [97, 98, 99, 32, 99, 98, 97, 10], [43, 32, 97, 98, 100, 10], [43, 32, 97, 98, 10], [43, 97, 98, 99, 10], [43, 32, 32, 97, 98, 99, 10], [32, 43, 32, 97, 98, 99, 10]]
def t2 : List (List Nat) := [[43, 32, 97, 98, 99, 32, 10], [42, 32, 97, 98, 99, 10]]
def t4 : List (List Nat) := [[43, 32, 97, 98, 99, 10, 10], [43, 32, 65, 98, 99, 10], [43, 32, 97, 98, 99, 32, 97, 98, 99, 10], [43, 32, 97, 98, 99, 10, 45, 32, 97, 98, 99, 10, 45, 32, 97, 98, 99, 10]]
def gds : List (List Nat) := [[], [43, 32, 97, 98, 99, 10], [43, 32, 97, 98, 99, 10, 97, 98, 99, 32, 99, 98, 97, 10, 45, 32, 99, 98, 97, 10], [43, 32, 98, 99, 97, 10, 98, 99, 97, 32, 98, 99, 97, 10]]
abbrev S11 (r : Nat) : Sg := S nn nn nn nn nn nn nn nn nn nn nn (some (.ref r)) nn
abbrev S12 (r : Nat) : Sg := S nn nn nn nn nn nn nn nn nn nn nn nn (some (.ref r))
def b1 : List Va := sL t9
def b2 : List Va := sL (t9 ++ t2)
def b3 : List Va := sL (t9 ++ t2 ++ t4) ++ [.str (tx Yp.big), .non, .int 5]
def b4 : List Va := b3 ++ [.tup [.str (tx [43, 32, 97, 98, 99, 10])]]
theorem i25 : nxT 0 [11] (P_law_25 0 (SN nn nn) []) (S11 0) [.lst (sL gds)] = true := by decide +kernel
theorem i23 : nxT 0 [] (P_law_23 poll_text read_poll_t 0 (S11 0) [.lst (sL gds)]) (SN nn nn) [] = true := by decide +kernel
theorem i21 : nxT 0 [12] (P_law_21 0 (SN nn nn) []) (S12 0) [.lst b1] = true := by decide +kernel
theorem i20 : nxT 0 [12] (P_law_20 0 (S12 0) [.lst b1]) (S12 0) [.lst b2] = true := by decide +kernel
theorem i18 : nxT 0 [12] (P_law_18 0 (S12 0) [.lst b2]) (S12 0) [.lst b3] = true := by decide +kernel
theorem i17 : nxT 0 [12] (P_law_17 0 (S12 0) [.lst b3]) (S12 0) [.lst b4] = true := by decide +kernel
theorem sNx {n0 : Nat} {live : List Nat} {f k : Ds} {s s2 : Sg} {h h2 : Hs} {r : RS} (e : nxT n0 live (f s h) s2 h2 = true) (q : k s2 h2 = r) : dSeqT n0 live f k s h = r := by
  obtain ⟨s1, h1, a, b⟩ := nxT_is e
  exact stepT a b q
theorem smalls : ∀ w ∈ t9 ++ t2 ++ t4, Yp.canT w = false ∧ w.length ≤ 500 ∧ ∀ c ∈ w, c < 0x110000 := by decide +kernel
theorem small_x {w : List Nat} (h : Good w) (hc : Yp.canT w = false) : ∃ c G, c % 100 = 6 ∧ read_poll_t [.str (tx w)] [] = .ex c G := by
  have g := good_tx h
  obtain ⟨ini, last, es⟩ := Xt.snoc2 (splA 10 [] w) (splA_ne 10 w [])
  have ce := Yp.canT_of es
  rcases Yp.rp_0 g.1 es h.1 with ⟨hz, ps, b, hr, _⟩ | ⟨_, c, G, hcc, e⟩
  · rw [hc, hz, hr] at ce
    cases ce
  · exact ⟨c, G, by rcases hcc with rfl | rfl <;> rfl, e⟩
theorem bad_x : ∀ v ∈ b4, refsV v = [] ∧ ∃ c G, c % 100 = 6 ∧ read_poll_t [v] [] = .ex c G := by
  intro v hv
  rcases List.mem_append.mp hv with hv | hv
  · rcases List.mem_append.mp hv with hv | hv
    · obtain ⟨w, hw, rfl⟩ := List.mem_map.mp hv
      obtain ⟨h1, h2, h3⟩ := smalls w hw
      exact ⟨rfl, small_x ⟨h2, h3⟩ h1⟩
    · simp only [List.mem_cons, List.not_mem_nil, or_false] at hv
      rcases hv with rfl | rfl | rfl
      · obtain ⟨c, G, hc, e⟩ := Yp.big_x
        exact ⟨rfl, c, G, by rcases hc with rfl | rfl <;> rfl, e⟩
      · exact ⟨rfl, 6, [], rfl, by kernel_rfl⟩
      · exact ⟨rfl, 6, [], rfl, by kernel_rfl⟩
  · rw [List.mem_singleton.mp hv]
    exact ⟨rfl, 6, [], rfl, by kernel_rfl⟩
theorem b4_len : b4.length = 19 := by decide +kernel
theorem p16 : ∃ H, P_law_16 read_poll_t 0 (S12 0) [.lst b4] = .rt (.bl true) H := by
  have hb := bad_x
  have hl := b4_len
  generalize b4 = B at *
  obtain ⟨G', key⟩ := compGI (it := .lst 0) (n := 19) (z := fun i => B.getD i .non) (t := .nm 9) (test := dYes) (el := dTold [0, 1, 2, 3, 4, 5, 6, 7] wd (dCall read_poll_t 1 (aCons (dVar 9) aNil))) (s := S12 0) (h0 := [.lst B]) (p := fun _ => true) (e := fun _ => sNX)
    (fun i G hi => by
      show some (B[i]?) = _
      rw [List.getD_eq_getElem?_getD, List.getElem?_eq_getElem (by omega)]
      rfl)
    (fun G => by
      show some (B[19]?) = _
      rw [List.getElem?_eq_none (by omega)])
    (fun i hi G => by
      have hv : B.getD i .non ∈ B := by
        rw [List.getD_eq_getElem?_getD, List.getElem?_eq_getElem (by omega)]
        exact List.getElem_mem _
      obtain ⟨fv, c, G0, hc, e⟩ := hb _ hv
      generalize B.getD i .non = v at *
      refine ⟨S nn nn nn nn nn nn nn nn nn (some v) nn nn (some (.ref 0)), G, rfl, rfl, fun _ => ?_⟩
      obtain ⟨G1, eg⟩ := Yp.callD_exX (F := read_poll_t) (args := [v]) (h := [.lst B] ++ G) (by simp [refsVs, fv]) e
      refine ⟨G ++ G1, ?_⟩
      have ec : dCall read_poll_t 1 (aCons (dVar 9) aNil) (S nn nn nn nn nn nn nn nn nn (some v) nn nn (some (.ref 0))) ([.lst B] ++ G) = .ex c (([.lst B] ++ G) ++ G1) := Xt.call_ex (F := read_poll_t) (vs := [v]) rfl rfl eg
      rw [← List.append_assoc]
      exact told_x ec (by rw [hc]; rfl) (by rw [hc]; exact wd6))
    20 0 [] (by omega) (by omega)
  have ev : ((List.range' 0 (19 - 0)).filter fun _ => true).map (fun _ => sNX) = List.replicate 19 sNX := by decide +kernel
  rw [ev, List.append_nil] at key
  have ec : dComp [9] (dIt (dVar 12)) (.nm 9) dYes (dTold [0, 1, 2, 3, 4, 5, 6, 7] wd (dCall read_poll_t 1 (aCons (dVar 9) aNil))) (S12 0) [.lst B] = .ok (.ref ([Ob.lst B] ++ G').length) (([.lst B] ++ G') ++ [.lst (List.replicate 19 sNX)]) := by
    rw [u_comp, show dIt (dVar 12) (S12 0) [.lst B] = .ok (.lst 0) [.lst B] from rfl, u_co1]
    have hi : itLen (.lst 0) [.lst B] = 19 := hl
    rw [hi]
    show co2 (compL _ _ _ _ (S12 0) _ _ _) = _
    rw [key, u_co2 _ _ (by simp)]
  generalize ([Ob.lst B] ++ G') = H0 at *
  have em : dOp kMul (dLst (aCons (dC (.str (Str.mk #[110, 111, 32, 116, 101, 120, 116]))) aNil)) (dC (.int 19)) (S12 0) (H0 ++ [.lst (List.replicate 19 sNX)]) = .ok (.ref (H0.length + 2)) (H0 ++ [.lst (List.replicate 19 sNX), .lst [sNX], .lst (List.replicate 19 sNX)]) := by
    have e1 : dLst (aCons (dC (.str (Str.mk #[110, 111, 32, 116, 101, 120, 116]))) aNil) (S12 0) (H0 ++ [.lst (List.replicate 19 sNX)]) = .ok (.ref (H0.length + 1)) (H0 ++ [.lst (List.replicate 19 sNX), .lst [sNX]]) := by
      show Rs.ok (Va.ref (H0 ++ [Ob.lst (List.replicate 19 sNX)]).length) ((H0 ++ [Ob.lst (List.replicate 19 sNX)]) ++ [.lst [sNX]]) = _
      rw [List.append_assoc, List.length_append]
      rfl
    refine op_of e1 rfl ?_
    have hr : (H0 ++ [Ob.lst (List.replicate 19 sNX), .lst [sNX]])[H0.length + 1]? = some (.lst [sNX]) := by
      rw [List.getElem?_append_right (by omega)]
      simp
    unfold kMul
    simp only [hr]
    have ok : (decide (-(2 ^ 63) ≤ (19 : Int)) && decide ((19 : Int) < 2 ^ 63) && okN ([sNX].length * (19 : Int).toNat)) = true := by decide +kernel
    rw [if_pos ok]
    have er : (List.replicate (19 : Int).toNat [sNX]).flatten = List.replicate 19 sNX := rfl
    rw [er, List.append_assoc, List.length_append]
    rfl
  have g1 : (H0 ++ [Ob.lst (List.replicate 19 sNX), .lst [sNX], .lst (List.replicate 19 sNX)])[H0.length]? = some (.lst (List.replicate 19 sNX)) := by
    rw [List.getElem?_append_right (Nat.le_refl _)]
    simp
  have g2 : (H0 ++ [Ob.lst (List.replicate 19 sNX), .lst [sNX], .lst (List.replicate 19 sNX)])[H0.length + 2]? = some (.lst (List.replicate 19 sNX)) := by
    rw [List.getElem?_append_right (by omega)]
    simp
  unfold P_law_16
  exact ⟨_, Xt.ret_of (op_of ec em (eqLk g1 g2 fun v hv => by
    rw [List.eq_of_mem_replicate hv]
    exact likeS _ 8 _ (by decide +kernel)))⟩
theorem p26 : ∃ H, P_law_26 poll_text read_poll_t 0 (SN nn nn) [] = .rt (.bl true) H := by
  obtain ⟨H, e⟩ := p16
  refine ⟨H, ?_⟩
  unfold P_law_26
  refine sNx i25 ?_
  unfold P_law_24
  refine sNx i23 ?_
  unfold P_law_22
  refine sNx i21 (sNx i20 ?_)
  unfold P_law_19
  exact sNx i18 (sNx i17 e)
theorem ok (ns : List Int) (hl : ns.length ≤ 63) : ∃ h, law ns [.scr] [] = .ok (.bl true) h := by
  obtain ⟨h', el⟩ := p26
  obtain ⟨h3, r, p, q, ps, b, a34, P3, O3, R, lp⟩ := loopA ns
  obtain ⟨h4, r4, p4, q4, c34, P4, O4, _, _⟩ := clA (n0 := 0) P3 (fun k hk => absurd hk (Nat.not_lt_zero k)) (by omega) (live := [0, 1]) (s := SA r nn) rfl
  have t0 := t0_ok lp
  obtain ⟨so, g, ls, a29⟩ := loopC ns (R := rwsL ps) (rws_ok lp) (by simp [rwsL]) (t0 := Pg.lnL ps) (by omega) t0.2
  have gg : ∀ w ∈ so, Good w := fun w hw => (g w hw).elim (fun e => by rw [e]; exact ⟨by omega, t0.2⟩) id
  have a33 : dSet 3 (dCall poll_text 1 (aCons (dVar 1) aNil)) (SA r4 nn) h4 = .nx (S sc (some (.ref r4)) nn (some (.str (tx (Pg.lnL ps)))) nn nn nn nn nn nn nn nn nn) h4 := set_of (text_e P4 rfl (by omega) (by simp) R)
  have e : P_law_36 Poll___init__ _law_did (_law_deed ns) Poll_book poll_text (_law_cell ns) (_law_pick ns) _law_spoilt read_poll_t _law_can_be 0 s0 [] = .rt (.bl true) h' := by
    unfold P_law_36
    refine stepT st1 st1c ?_
    unfold P_law_35
    refine stepT a34 c34 ?_
    unfold P_law_33
    refine stepT a33 (cl0 (s2 := SB (.str (tx (Pg.lnL ps)))) _ rfl rfl) ?_
    unfold P_law_32
    refine stepT (p31 lp) (c31 _ _ rfl rfl) ?_
    unfold P_law_30
    refine stepT a29 (c30 _ _ rfl) ?_
    unfold P_law_28
    exact stepT (p27 gg) (cl0 (s2 := SN nn nn) _ rfl rfl) el
  refine ⟨[], ?_⟩
  show compact 0 (toRs (P_law_36 Poll___init__ _law_did (_law_deed ns) Poll_book poll_text (_law_cell ns) (_law_pick ns) _law_spoilt read_poll_t _law_can_be 0 s0 [])) = _
  rw [e]
  exact compact_val rfl
end K43
theorem PySem.Challenge.cw_wishrules_k43_whole_poll_texts_spoilt_holds : PySem.Challenge.rw_wishrules_k43_whole_poll_texts_spoilt.Holds :=
  K43.holds K43.ok
