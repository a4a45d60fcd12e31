import PyProof.Rows.All
import Wide.All
import OpenK.AllK
import Wide.FinOn
import HandS.Base
import HandS.Call
import HandS.List
import HandS.Exc
import HandS.Dict
import HandS.Comp
import HandS.HeadHook1
import HandS.ExcCtx
import HandS.Deep
import HandS.Style
import HandS.IsInst
import HandS.Flow
import HandS.CallSlots
import HandS.Defaults
import HandS.Text
import HandS.Property
import HandS.ClsMeth
import HandS.Iter
import HandS.OwnEq
import PyProof.ReprRoads
import HandS.EndBits
import HandS.Head2
import HandS.HeadHook2
import HandS.MakeKw
import HandS.MakeKwOnly
import HandS.TryMany
import HandS.ExcField
import HandS.ExcIs
import KE.KExcSuper
import HandS.ExcSuper
import KE.KExcIs
import HandS.More
import HandS.CallLocal
import KE.KOpsOwn
import PyProof.StrBlock2
import OpenK.KMeth
import HandS.TupAny
import KE.GoesEnum
import HandS.Star
import PyProof.RowDictHeap
import PyProof.RowDictFlat
import KE.RegKStar
import PyProof.Rows.CallKw2
import HandS.TupSets
import OpenK.KOps
import KE.KStateDown
import PyProof.EqKinds
import HandS.FStr
import HandS.StrMore
import PyProof.FString3
import PyProof.FString
import PyProof.Rows.StrIntSpec
import HandS.SuiteRaise
import HandS.RaiseFrom
import HandS.ExcInitHot
import HandS.RaiseMore
import HandS.HeadHook3
import Wide.Once
import KE.GoesZip
import KE.GoesMore
import KE.KExcMake
import Lean
import HandS.Head0
import HandS.Head1
import HandS.Words
import PySem.Challenge.RW_lateflushes_k19_errors_made
set_option Elab.async false
set_option linter.all false
set_option maxRecDepth 100000
set_option maxHeartbeats 4000000
set_option autoImplicit false
namespace Z
open PySem PySem.Spec PyProof.Rows L2
/-! values as trees; what is changed stands in a memory of cells -/
inductive Vl where
  | non | bl (b : Bool) | int (i : Int) | str (x : Str) | ty (n : String)
  | glo (x : Str)
  | tup (xs : List Vl) | lst (xs : List Vl) | frl (xs : List Vl)
  | dic (kvs : List (Key × Vl)) | dit (kvs : List (List Key × Vl))
  | ins (c : Str) (fs : List (Str × Vl))
  | obj (n : Nat)
  | err (c : Str) (fs : List (Str × Vl))
inductive Cell where
  | lst (xs : List Vl) | dic (kvs : List (Key × Vl)) | dit (kvs : List (List Key × Vl))
  | ins (c : Str) (fs : List (Str × Vl))
abbrev Mem := List Cell
abbrev Ev := List (Option Vl)
inductive R (α : Type) where
  | ok (a : α) | ex (c : Str) (fs : List (Str × Vl))
/-- where the cells lie; which objects are values that nobody changes -/
structure Lay where
  c : List Addr
  z : List Addr
abbrev DE := Ev → Mem → Option (R Vl × Mem)
/-- an exception as a value: its class at C, its dict -/
def exq (a C : Addr) (d : Option Addr) : HO := .ext fun h => ∃ (oe : Obj) (vs : Array Value), h.get? a = some oe ∧ oe.cls = .ref C ∧ oe.dict = d ∧ oe.data = .fields vs
def ErrD (ρ : Lay) (H : Hp) (d : Option Addr) (gs : List (Str × V)) : Prop := (∃ dd, d = some dd ∧ dd ∉ ρ.c ∧ H dd = some (.xd gs)) ∨ (d = none ∧ gs = [])
section
variable (K : PySem.W.Frag) (ρ : Lay) (H : Hp)
def TupAt (a : Addr) (vs : List V) : Prop := (a ∉ ρ.c ∧ Rd H a (.tup vs)) ∨
    ∃ (o : Obj) (its : Array Value) (n : Nat), K.lookup a = some o ∧ o.cls = .type "tuple" ∧ o.data = .seq its n ∧ its.size ≤ sizeLine ∧ Vals vs its.toList
def LstAt (a : Addr) (vs : List V) : Prop := (a ∉ ρ.c ∧ ∃ o, H a = some (.frz o (.lst vs))) ∨
    ∃ (o : Obj) (its : Array Value) (n : Nat), K.lookup a = some o ∧ o.cls = .type "list" ∧ o.dict = none ∧ o.data = .seq its n ∧ its.size ≤ sizeLine ∧ Vals vs its.toList
mutual
def RV : Vl → V → Prop
  | .non, v => v = .non
  | .bl b, v => v = .bl b
  | .int i, v => v = .int i
  | .str x, v => v = .str x
  | .ty n, v => v = .ty n
  | .glo x, v => v = .ref (He.ga K x)
  | .tup xs, v => ∃ a vs, v = .ref a ∧ TupAt K ρ H a vs ∧ RVs xs vs
  | .lst xs, v => ∃ a vs, v = .ref a ∧ (a ∈ ρ.z ∧ a ∉ ρ.c) ∧ H a = some (.lst vs) ∧ RVs xs vs
  | .frl xs, v => ∃ a vs, v = .ref a ∧ LstAt K ρ H a vs ∧ RVs xs vs
  | .dic kvs, v => ∃ a ks, v = .ref a ∧ (a ∈ ρ.z ∧ a ∉ ρ.c) ∧ H a = some (.dK ks) ∧ RKs kvs ks
  | .dit kvs, v => ∃ a ks, v = .ref a ∧ (a ∈ ρ.z ∧ a ∉ ρ.c) ∧ H a = some (.dT ks) ∧ RTs kvs ks
  | .ins c fs, v => ∃ a dx gs, v = .ref a ∧ (a ∈ ρ.z ∧ a ∉ ρ.c) ∧ H a = some (.ins (He.ga K c) dx gs) ∧ RFs fs gs
  | .obj n, v => ∃ a, v = .ref a ∧ ρ.c[n]? = some a
  | .err c fs, v => ∃ a d gs, v = .ref a ∧ a ∉ ρ.c ∧ H a = some (exq a (He.ga K c) d) ∧ ErrD ρ H d gs ∧ RFs fs gs
def RVs : List Vl → List V → Prop
  | [], vs => vs = []
  | x :: xs, vs => ∃ v r, vs = v :: r ∧ RV x v ∧ RVs xs r
def RKs : List (Key × Vl) → List (Key × V) → Prop
  | [], vs => vs = []
  | (k, x) :: xs, vs => ∃ v r, vs = (k, v) :: r ∧ RV x v ∧ RKs xs r
def RTs : List (List Key × Vl) → List (List Key × V) → Prop
  | [], vs => vs = []
  | (k, x) :: xs, vs => ∃ v r, vs = (k, v) :: r ∧ RV x v ∧ RTs xs r
def RFs : List (Str × Vl) → List (Str × V) → Prop
  | [], vs => vs = []
  | (k, x) :: xs, vs => ∃ v r, vs = (k, v) :: r ∧ RV x v ∧ RFs xs r
end
end
structure Ext (ρ : Lay) (H : Hp) (ρ' : Lay) (H' : Hp) : Prop where
  pre : ρ.c <+: ρ'.c
  zin : ∀ a, a ∈ ρ.z → a ∈ ρ'.z
  keep : ∀ a o, H a = some o → a ∉ ρ.c → H' a = some o
  stay : ∀ a o, H a = some o → ∃ o', H' a = some o'
  oldc : ∀ a, a ∈ ρ'.c → a ∈ ρ.c ∨ H a = none
  oldz : ∀ a, a ∈ ρ'.z → a ∈ ρ.z ∨ H a = none
end Z
namespace Z
open PySem PySem.Spec PyProof.Rows L2
section
variable {K : PySem.W.Frag} {ρ ρ' ρ2 : Lay} {H H' H2 : Hp}
theorem Ext.refl : Ext ρ H ρ H := ⟨List.prefix_refl _, fun _ h => h, fun a o e n => e, fun a o e => ⟨o, e⟩, fun a h => .inl h, fun a h => .inl h⟩
theorem Ext.none (e : Ext ρ H ρ' H') {a : Addr} (h : H' a = none) : H a = none := by
  cases z : H a with
  | none => rfl
  | some o =>
    obtain ⟨o', q⟩ := e.stay a o z
    rw [h] at q
    cases q
theorem Ext.out (e : Ext ρ H ρ' H') {a : Addr} {o : HO} (h : H a = some o) (n : a ∉ ρ.c) : a ∉ ρ'.c := fun q => by
  rcases e.oldc a q with z | z
  · exact n z
  · rw [h] at z
    cases z
theorem Ext.outz (e : Ext ρ H ρ' H') {a : Addr} {o : HO} (h : H a = some o) (n : a ∉ ρ.z) : a ∉ ρ'.z := fun q => by
  rcases e.oldz a q with z | z
  · exact n z
  · rw [h] at z
    cases z
theorem Ext.trans (a : Ext ρ H ρ' H') (b : Ext ρ' H' ρ2 H2) : Ext ρ H ρ2 H2 :=
  ⟨a.pre.trans b.pre, fun x h => b.zin x (a.zin x h), fun x o e n => b.keep x o (a.keep x o e n) (a.out e n), fun x o e => let ⟨o', h⟩ := a.stay x o e; b.stay x o' h, fun x h => by
    rcases b.oldc x h with q | q
    · exact a.oldc x q
    · exact .inr (a.none q), fun x h => by
    rcases b.oldz x h with q | q
    · exact a.oldz x q
    · exact .inr (a.none q)⟩
theorem rd_mono (e : Ext ρ H ρ' H') {a : Addr} {u : HO} (n : a ∉ ρ.c) (h : Rd H a u) : a ∉ ρ'.c ∧ Rd H' a u := by
  rcases h with h | ⟨o, h⟩
  · exact ⟨e.out h n, .inl (e.keep a _ h n)⟩
  · exact ⟨e.out h n, .inr ⟨o, e.keep a _ h n⟩⟩
theorem TupAt.mono (e : Ext ρ H ρ' H') {a : Addr} {vs : List V} (h : TupAt K ρ H a vs) : TupAt K ρ' H' a vs := by
  rcases h with ⟨n, h⟩ | h
  · exact .inl (rd_mono e n h)
  · exact .inr h
theorem LstAt.mono (e : Ext ρ H ρ' H') {a : Addr} {vs : List V} (h : LstAt K ρ H a vs) : LstAt K ρ' H' a vs := by
  rcases h with ⟨n, o, h⟩ | h
  · exact .inl ⟨e.out h n, o, e.keep a _ h n⟩
  · exact .inr h
theorem TupAt.sq {a : Addr} {vs : List V} (h : TupAt K ρ H a vs) : SqT K H a vs := by
  rcases h with ⟨_, h⟩ | h
  · exact .inl h
  · exact .inr h
theorem LstAt.sq {a : Addr} {vs : List V} (h : LstAt K ρ H a vs) : SqL K H a vs := by
  rcases h with ⟨_, h⟩ | h
  · exact .inl (.inr h)
  · exact .inr h
theorem ErrD.mono (e : Ext ρ H ρ' H') {d : Option Addr} {gs : List (Str × V)} (h : ErrD ρ H d gs) : ErrD ρ' H' d gs := by
  rcases h with ⟨dd, h1, h2, h3⟩ | h
  · exact .inl ⟨dd, h1, e.out h3 h2, e.keep dd _ h3 h2⟩
  · exact .inr h
mutual
theorem RV.mono (e : Ext ρ H ρ' H') : ∀ (x : Vl) {v : V}, RV K ρ H x v → RV K ρ' H' x v
  | .non, _, h => h
  | .bl _, _, h => h
  | .int _, _, h => h
  | .str _, _, h => h
  | .ty _, _, h => h
  | .glo _, _, h => h
  | .tup xs, _, ⟨a, vs, h1, h2, h3⟩ => ⟨a, vs, h1, h2.mono e, RVs.mono e xs h3⟩
  | .lst xs, _, ⟨a, vs, h1, n, h2, h3⟩ => ⟨a, vs, h1, ⟨e.zin a n.1, e.out h2 n.2⟩, e.keep a _ h2 n.2, RVs.mono e xs h3⟩
  | .frl xs, _, ⟨a, vs, h1, h2, h3⟩ => ⟨a, vs, h1, h2.mono e, RVs.mono e xs h3⟩
  | .dic xs, _, ⟨a, vs, h1, n, h2, h3⟩ => ⟨a, vs, h1, ⟨e.zin a n.1, e.out h2 n.2⟩, e.keep a _ h2 n.2, RKs.mono e xs h3⟩
  | .dit xs, _, ⟨a, vs, h1, n, h2, h3⟩ => ⟨a, vs, h1, ⟨e.zin a n.1, e.out h2 n.2⟩, e.keep a _ h2 n.2, RTs.mono e xs h3⟩
  | .ins c fs, _, ⟨a, dx, gs, h1, n, h2, h3⟩ => ⟨a, dx, gs, h1, ⟨e.zin a n.1, e.out h2 n.2⟩, e.keep a _ h2 n.2, RFs.mono e fs h3⟩
  | .obj n, _, ⟨a, h1, h2⟩ => ⟨a, h1, by
      obtain ⟨t, ht⟩ := e.pre
      rw [← ht]
      exact (List.getElem?_append_left (List.getElem?_eq_some_iff.mp h2).1).trans h2⟩
  | .err c fs, _, ⟨a, d, gs, h1, n, h2, h3, h4⟩ => ⟨a, d, gs, h1, e.out h2 n, e.keep a _ h2 n, h3.mono e, RFs.mono e fs h4⟩
theorem RVs.mono (e : Ext ρ H ρ' H') : ∀ (xs : List Vl) {vs : List V}, RVs K ρ H xs vs → RVs K ρ' H' xs vs
  | [], _, h => h
  | x :: xs, _, ⟨v, r, h1, h2, h3⟩ => ⟨v, r, h1, RV.mono e x h2, RVs.mono e xs h3⟩
theorem RKs.mono (e : Ext ρ H ρ' H') : ∀ (xs : List (Key × Vl)) {vs : List (Key × V)}, RKs K ρ H xs vs → RKs K ρ' H' xs vs
  | [], _, h => h
  | (k, x) :: xs, _, ⟨v, r, h1, h2, h3⟩ => ⟨v, r, h1, RV.mono e x h2, RKs.mono e xs h3⟩
theorem RTs.mono (e : Ext ρ H ρ' H') : ∀ (xs : List (List Key × Vl)) {vs : List (List Key × V)}, RTs K ρ H xs vs → RTs K ρ' H' xs vs
  | [], _, h => h
  | (k, x) :: xs, _, ⟨v, r, h1, h2, h3⟩ => ⟨v, r, h1, RV.mono e x h2, RTs.mono e xs h3⟩
theorem RFs.mono (e : Ext ρ H ρ' H') : ∀ (xs : List (Str × Vl)) {vs : List (Str × V)}, RFs K ρ H xs vs → RFs K ρ' H' xs vs
  | [], _, h => h
  | (k, x) :: xs, _, ⟨v, r, h1, h2, h3⟩ => ⟨v, r, h1, RV.mono e x h2, RFs.mono e xs h3⟩
end
/-! lists of values -/
theorem RVs.length : ∀ {xs : List Vl} {vs : List V}, RVs K ρ H xs vs → xs.length = vs.length
  | [], _, h => by rw [show _ = [] from h]; rfl
  | _ :: xs, _, ⟨v, r, h1, _, h3⟩ => by rw [h1, List.length_cons, List.length_cons, RVs.length h3]
theorem RVs.get : ∀ {xs : List Vl} {vs : List V} {i : Nat} {x : Vl}, RVs K ρ H xs vs → xs[i]? = some x → ∃ v, vs[i]? = some v ∧ RV K ρ H x v
  | [], _, _, _, _, e => by simp at e
  | _ :: _, _, 0, _, ⟨v, r, h1, h2, _⟩, e => by
    simp at e
    subst e h1
    exact ⟨v, rfl, h2⟩
  | _ :: xs, _, i + 1, x, ⟨v, r, h1, _, h3⟩, e => by
    subst h1
    obtain ⟨u, h4, h5⟩ := RVs.get (i := i) (x := x) h3 (by simpa using e)
    exact ⟨u, by simpa using h4, h5⟩
theorem RVs.getv : ∀ {xs : List Vl} {vs : List V} {i : Nat} {v : V}, RVs K ρ H xs vs → vs[i]? = some v → ∃ x, xs[i]? = some x ∧ RV K ρ H x v := by
  intro xs vs i v h e
  have hl := h.length
  obtain ⟨hi, _⟩ := List.getElem?_eq_some_iff.mp e
  have hx : xs[i]? = some (xs[i]'(by omega)) := by simp [hl, hi]
  obtain ⟨u, h4, h5⟩ := h.get hx
  rw [e] at h4
  cases h4
  exact ⟨_, hx, h5⟩
theorem RVs.append : ∀ {xs ys : List Vl} {vs ws : List V}, RVs K ρ H xs vs → RVs K ρ H ys ws → RVs K ρ H (xs ++ ys) (vs ++ ws)
  | [], _, _, _, h, q => by
    rw [show _ = [] from h]
    exact q
  | _ :: xs, _, _, _, ⟨v, r, h1, h2, h3⟩, q => by
    subst h1
    exact ⟨v, _, rfl, h2, RVs.append h3 q⟩
theorem RVs.set : ∀ {xs : List Vl} {vs : List V} {y : Vl} {w : V} (i : Nat), RVs K ρ H xs vs → RV K ρ H y w → RVs K ρ H (xs.set i y) (vs.set i w)
  | [], _, _, _, _, h, _ => by
    rw [show _ = [] from h]
    exact rfl
  | _ :: xs, _, _, _, 0, ⟨v, r, h1, h2, h3⟩, q => by
    subst h1
    exact ⟨_, _, rfl, q, h3⟩
  | _ :: xs, _, _, _, i + 1, ⟨v, r, h1, h2, h3⟩, q => by
    subst h1
    exact ⟨_, _, rfl, h2, RVs.set i h3 q⟩
theorem RVs.mk : ∀ {xs : List Vl} {vs : List V}, xs.length = vs.length → (∀ (i : Nat) (x : Vl) (v : V), xs[i]? = some x → vs[i]? = some v → RV K ρ H x v) → RVs K ρ H xs vs
  | [], [], _, _ => rfl
  | [], _ :: _, h, _ => by simp at h
  | _ :: _, [], h, _ => by simp at h
  | x :: xs, v :: vs, h, q => ⟨v, vs, rfl, q 0 x v rfl rfl, RVs.mk (by simpa using h) fun i y w h1 h2 => q (i + 1) y w (by simpa using h1) (by simpa using h2)⟩
theorem RVs.eraseIdx {xs : List Vl} {vs : List V} (h : RVs K ρ H xs vs) (i : Nat) : RVs K ρ H (xs.eraseIdx i) (vs.eraseIdx i) := by
  refine RVs.mk (by rw [List.length_eraseIdx, List.length_eraseIdx, h.length]) fun j x v h1 h2 => ?_
  rw [List.getElem?_eraseIdx] at h1 h2
  split at h1
  · rename_i q
    rw [if_pos q] at h2
    obtain ⟨w, h3, h4⟩ := h.get h1
    rw [h2] at h3
    cases h3
    exact h4
  · rename_i q
    rw [if_neg q] at h2
    obtain ⟨w, h3, h4⟩ := h.get h1
    rw [h2] at h3
    cases h3
    exact h4
theorem RVs.reverse {xs : List Vl} {vs : List V} (h : RVs K ρ H xs vs) : RVs K ρ H xs.reverse vs.reverse := by
  refine RVs.mk (by rw [List.length_reverse, List.length_reverse, h.length]) fun j x v h1 h2 => ?_
  have hj : j < xs.length := by simpa using (List.getElem?_eq_some_iff.mp h1).1
  rw [List.getElem?_reverse hj] at h1
  rw [List.getElem?_reverse (by rw [← h.length]; exact hj), ← h.length] at h2
  obtain ⟨w, h3, h4⟩ := h.get h1
  rw [h2] at h3
  cases h3
  exact h4
theorem RFs.get : ∀ {xs : List (Str × Vl)} {vs : List (Str × V)} {f : Str} {x : Vl}, RFs K ρ H xs vs → xs.lookup f = some x → ∃ v, vs.lookup f = some v ∧ RV K ρ H x v
  | [], _, _, _, _, e => by simp at e
  | (k, y) :: xs, _, f, x, ⟨v, r, h1, h2, h3⟩, e => by
    subst h1
    rw [List.lookup_cons] at e ⊢
    cases q : f == k with
    | true =>
      rw [q] at e
      cases e
      exact ⟨v, rfl, h2⟩
    | false =>
      rw [q] at e
      exact RFs.get h3 e
theorem RFs.none : ∀ {xs : List (Str × Vl)} {vs : List (Str × V)} {f : Str}, RFs K ρ H xs vs → xs.lookup f = none → vs.lookup f = none
  | [], _, _, h, _ => by
    rw [show _ = [] from h]
    rfl
  | (k, y) :: xs, _, f, ⟨v, r, h1, h2, h3⟩, e => by
    subst h1
    rw [List.lookup_cons] at e ⊢
    cases q : f == k with
    | true =>
      rw [q] at e
      cases e
    | false =>
      rw [q] at e
      exact RFs.none h3 e
theorem RFs.length : ∀ {xs : List (Str × Vl)} {vs : List (Str × V)}, RFs K ρ H xs vs → xs.length = vs.length
  | [], _, h => by rw [show _ = [] from h]; rfl
  | (_, _) :: xs, _, ⟨v, r, h1, _, h3⟩ => by rw [h1, List.length_cons, List.length_cons, RFs.length h3]
/-! a value is of the flat kinds -/
def putL (f : Str) (v : Vl) : List (Str × Vl) → List (Str × Vl)
  | [] => [(f, v)]
  | (g, x) :: r => if g = f then (g, v) :: r else (g, x) :: putL f v r
theorem RFs.put {f : Str} {y : Vl} {w : V} (q : RV K ρ H y w) : ∀ {xs : List (Str × Vl)} {vs : List (Str × V)}, RFs K ρ H xs vs → RFs K ρ H (putL f y xs) (putF f w vs)
  | [], _, h => by
    rw [show _ = [] from h]
    exact ⟨w, [], rfl, q, rfl⟩
  | (k, x) :: xs, _, ⟨v, r, h1, h2, h3⟩ => by
    subst h1
    unfold putL putF
    by_cases e : k = f
    · rw [if_pos e, if_pos e]
      exact ⟨w, r, rfl, q, h3⟩
    · rw [if_neg e, if_neg e]
      exact ⟨v, _, rfl, h2, RFs.put q h3⟩
end
/-! ### the memory -/
def RC (K : PySem.W.Frag) (ρ : Lay) (H : Hp) (a : Addr) : Cell → Prop
  | .lst xs => ∃ vs, H a = some (.lst vs) ∧ RVs K ρ H xs vs
  | .dic ks => ∃ vs, H a = some (.dK vs) ∧ RKs K ρ H ks vs
  | .dit ks => ∃ vs, H a = some (.dT vs) ∧ RTs K ρ H ks vs
  | .ins c fs => ∃ dx gs, H a = some (.ins (He.ga K c) dx gs) ∧ RFs K ρ H fs gs
structure RM (K : PySem.W.Frag) (ρ : Lay) (m : Mem) (H : Hp) : Prop where
  nd : ρ.c.Nodup
  len : ρ.c.length = m.length
  at_ : ∀ (n : Nat) (c : Cell) (a : Addr), m[n]? = some c → ρ.c[n]? = some a → RC K ρ H a c
  zt : ∀ a, a ∈ ρ.z → a ∉ ρ.c ∧ ∃ o, H a = some o
section
variable {K : PySem.W.Frag} {ρ ρ' : Lay} {H H' : Hp} {m : Mem} {n : Nat} {a p : Addr} {c : Cell}
theorem RC.some (h : RC K ρ H a c) : ∃ o, H a = some o := by
  cases c with
  | lst xs => exact let ⟨vs, h, _⟩ := h; ⟨_, h⟩
  | dic xs => exact let ⟨vs, h, _⟩ := h; ⟨_, h⟩
  | dit xs => exact let ⟨vs, h, _⟩ := h; ⟨_, h⟩
  | ins k fs => exact let ⟨_, vs, h, _⟩ := h; ⟨_, h⟩
theorem RM.some (h : RM K ρ m H) (ha : a ∈ ρ.c) : ∃ o, H a = some o := by
  obtain ⟨n, hn⟩ := List.mem_iff_getElem?.mp ha
  have hl : n < m.length := by rw [← h.len]; exact (List.getElem?_eq_some_iff.mp hn).1
  exact (h.at_ n m[n] a (by simp [hl]) hn).some
theorem RM.fresh (h : RM K ρ m H) (hp : H p = none) : p ∉ ρ.c := fun q => by
  obtain ⟨o, e⟩ := h.some q
  rw [hp] at e
  cases e
theorem RM.freshz (h : RM K ρ m H) (hp : H p = none) : p ∉ ρ.z := fun q => by
  obtain ⟨_, o, e⟩ := h.zt p q
  rw [hp] at e
  cases e
theorem RM.adr (h : RM K ρ m H) (hn : m[n]? = Option.some c) : ∃ a, ρ.c[n]? = Option.some a := by
  have hl : n < ρ.c.length := by rw [h.len]; exact (List.getElem?_eq_some_iff.mp hn).1
  exact ⟨ρ.c[n], by simp [hl]⟩
theorem RM.ne (h : RM K ρ m H) {i j : Nat} {b : Addr} (h1 : ρ.c[i]? = Option.some a) (h2 : ρ.c[j]? = Option.some b) (ne : i ≠ j) : a ≠ b := fun e => by
  subst e
  obtain ⟨q1, e1⟩ := List.getElem?_eq_some_iff.mp h1
  obtain ⟨q2, e2⟩ := List.getElem?_eq_some_iff.mp h2
  exact ne ((List.getElem_inj h.nd).mp (e1.trans e2.symm))
/-- a cell behind a change that keeps what lies at its address -/
theorem RC.mono (e : Ext ρ H ρ' H') (hs : ∀ o, H a = Option.some o → H' a = Option.some o) : ∀ {c : Cell}, RC K ρ H a c → RC K ρ' H' a c
  | .lst xs, ⟨vs, h1, h2⟩ => ⟨vs, hs _ h1, h2.mono e⟩
  | .dic xs, ⟨vs, h1, h2⟩ => ⟨vs, hs _ h1, h2.mono e⟩
  | .dit xs, ⟨vs, h1, h2⟩ => ⟨vs, hs _ h1, h2.mono e⟩
  | .ins _ xs, ⟨dx, vs, h1, h2⟩ => ⟨dx, vs, hs _ h1, h2.mono e⟩
theorem upd_stay {o : HO} {b : Addr} {u : HO} (e : H b = Option.some u) : ∃ o', upd H p o b = Option.some o' := by
  by_cases q : b = p
  · subst q
    exact ⟨o, upd_same⟩
  · exact ⟨u, by rw [upd_ne q]; exact e⟩
theorem ext_new {o : HO} (hp : H p = none) : Ext ρ H ρ (upd H p o) :=
  ⟨List.prefix_refl _, fun _ h => h, fun b u e n => by rw [upd_ne (ne_of_none e hp)]; exact e, fun b u e => upd_stay e, fun b h => .inl h, fun b h => .inl h⟩
/-- a new object that is no cell -/
theorem RM.laid {o : HO} (h : RM K ρ m H) (hp : H p = none) : RM K ρ m (upd H p o) :=
  ⟨h.nd, h.len, fun n c a h1 h2 => (h.at_ n c a h1 h2).mono (ext_new hp) fun u e => by rw [upd_ne (ne_of_none e hp)]; exact e, fun b hb => ⟨(h.zt b hb).1, let ⟨_, e⟩ := (h.zt b hb).2; upd_stay e⟩⟩
/-- .. one that is a value from now on -/
def Lay.frz (ρ : Lay) (p : Addr) : Lay := ⟨ρ.c, ρ.z ++ [p]⟩
def Lay.cel (ρ : Lay) (p : Addr) : Lay := ⟨ρ.c ++ [p], ρ.z⟩
/-- what belongs to nobody may be told of -/
theorem mem_frz {b : Addr} : b ∈ (ρ.frz p).z ↔ b ∈ ρ.z ∨ b = p := by
  show b ∈ ρ.z ++ [p] ↔ _
  rw [List.mem_append, List.mem_singleton]
theorem mem_cel {b : Addr} : b ∈ (ρ.cel p).c ↔ b ∈ ρ.c ∨ b = p := by
  show b ∈ ρ.c ++ [p] ↔ _
  rw [List.mem_append, List.mem_singleton]
structure Own (ρ : Lay) (H0 : Hp) (p : Addr) : Prop where
  c : p ∉ ρ.c
  z : p ∉ ρ.z
  new : H0 p = none
theorem Ext.toFrz {H0 : Hp} {ρ0 : Lay} (e : Ext ρ0 H0 ρ H) (w : Own ρ H0 p) : Ext ρ0 H0 (ρ.frz p) H :=
  ⟨e.pre, fun b h => mem_frz.mpr (.inl (e.zin b h)), e.keep, e.stay, e.oldc, fun b h => by
    rcases mem_frz.mp h with q | q
    · exact e.oldz b q
    · exact .inr (by rw [q]; exact w.new)⟩
theorem Ext.toCel {H0 : Hp} {ρ0 : Lay} (e : Ext ρ0 H0 ρ H) (w : Own ρ H0 p) : Ext ρ0 H0 (ρ.cel p) H :=
  ⟨e.pre.trans (List.prefix_append _ _), e.zin, e.keep, e.stay, fun b h => by
    rcases mem_cel.mp h with q | q
    · exact e.oldc b q
    · exact .inr (by rw [q]; exact w.new), e.oldz⟩
mutual
theorem RV.frz (w : p ∉ ρ.c) : ∀ (x : Vl) {v : V}, RV K ρ H x v → RV K (ρ.frz p) H x v
  | .non, _, h => h
  | .bl _, _, h => h
  | .int _, _, h => h
  | .str _, _, h => h
  | .ty _, _, h => h
  | .glo _, _, h => h
  | .tup xs, _, ⟨a, vs, h1, h2, h3⟩ => ⟨a, vs, h1, h2, RVs.frz w xs h3⟩
  | .lst xs, _, ⟨a, vs, h1, n, h2, h3⟩ => ⟨a, vs, h1, ⟨mem_frz.mpr (.inl n.1), n.2⟩, h2, RVs.frz w xs h3⟩
  | .frl xs, _, ⟨a, vs, h1, h2, h3⟩ => ⟨a, vs, h1, h2, RVs.frz w xs h3⟩
  | .dic xs, _, ⟨a, vs, h1, n, h2, h3⟩ => ⟨a, vs, h1, ⟨mem_frz.mpr (.inl n.1), n.2⟩, h2, RKs.frz w xs h3⟩
  | .dit xs, _, ⟨a, vs, h1, n, h2, h3⟩ => ⟨a, vs, h1, ⟨mem_frz.mpr (.inl n.1), n.2⟩, h2, RTs.frz w xs h3⟩
  | .ins c fs, _, ⟨a, dx, gs, h1, n, h2, h3⟩ => ⟨a, dx, gs, h1, ⟨mem_frz.mpr (.inl n.1), n.2⟩, h2, RFs.frz w fs h3⟩
  | .obj n, _, h => h
  | .err c fs, _, ⟨a, d, gs, h1, n, h2, h3, h4⟩ => ⟨a, d, gs, h1, n, h2, h3, RFs.frz w fs h4⟩
theorem RVs.frz (w : p ∉ ρ.c) : ∀ (xs : List Vl) {vs : List V}, RVs K ρ H xs vs → RVs K (ρ.frz p) H xs vs
  | [], _, h => h
  | x :: xs, _, ⟨v, r, h1, h2, h3⟩ => ⟨v, r, h1, RV.frz w x h2, RVs.frz w xs h3⟩
theorem RKs.frz (w : p ∉ ρ.c) : ∀ (xs : List (Key × Vl)) {vs : List (Key × V)}, RKs K ρ H xs vs → RKs K (ρ.frz p) H xs vs
  | [], _, h => h
  | (k, x) :: xs, _, ⟨v, r, h1, h2, h3⟩ => ⟨v, r, h1, RV.frz w x h2, RKs.frz w xs h3⟩
theorem RTs.frz (w : p ∉ ρ.c) : ∀ (xs : List (List Key × Vl)) {vs : List (List Key × V)}, RTs K ρ H xs vs → RTs K (ρ.frz p) H xs vs
  | [], _, h => h
  | (k, x) :: xs, _, ⟨v, r, h1, h2, h3⟩ => ⟨v, r, h1, RV.frz w x h2, RTs.frz w xs h3⟩
theorem RFs.frz (w : p ∉ ρ.c) : ∀ (xs : List (Str × Vl)) {vs : List (Str × V)}, RFs K ρ H xs vs → RFs K (ρ.frz p) H xs vs
  | [], _, h => h
  | (k, x) :: xs, _, ⟨v, r, h1, h2, h3⟩ => ⟨v, r, h1, RV.frz w x h2, RFs.frz w xs h3⟩
end
/-- what may be a cell -/
def cellK : HO → Bool
  | .lst _ => true
  | .dK _ => true
  | .dT _ => true
  | .ins _ _ _ => true
  | _ => false
theorem tup_cel {vs : List V} {o : HO} (h : TupAt K ρ H a vs) (hp : H p = Option.some o) (hk : cellK o = true) : TupAt K (ρ.cel p) H a vs := by
  rcases h with ⟨n, h⟩ | h
  · refine .inl ⟨fun q => ?_, h⟩
    rcases mem_cel.mp q with q | q
    · exact n q
    · subst q
      rcases h with h | ⟨u, h⟩
      · rw [h] at hp
        cases hp
        cases hk
      · rw [h] at hp
        cases hp
        cases hk
  · exact .inr h
theorem lst_cel {vs : List V} {o : HO} (h : LstAt K ρ H a vs) (hp : H p = Option.some o) (hk : cellK o = true) : LstAt K (ρ.cel p) H a vs := by
  rcases h with ⟨n, u, h⟩ | h
  · refine .inl ⟨fun q => ?_, u, h⟩
    rcases mem_cel.mp q with q | q
    · exact n q
    · subst q
      rw [h] at hp
      cases hp
      cases hk
  · exact .inr h
theorem nz_cel (w : p ∉ ρ.z) {a : Addr} (n : a ∈ ρ.z ∧ a ∉ ρ.c) : a ∈ (ρ.cel p).z ∧ a ∉ (ρ.cel p).c := ⟨n.1, fun q => by
  rcases mem_cel.mp q with q | q
  · exact n.2 q
  · rw [q] at n
    exact w n.1⟩
theorem exq_cel {o : HO} {C : Addr} {d : Option Addr} (n : a ∉ ρ.c) (h : H a = Option.some (exq a C d)) (hp : H p = Option.some o) (hk : cellK o = true) : a ∉ (ρ.cel p).c := fun q => by
  rcases mem_cel.mp q with q | q
  · exact n q
  · subst q
    rw [h] at hp
    cases hp
    cases hk
theorem errD_cel {o : HO} {d : Option Addr} {gs : List (Str × V)} (h : ErrD ρ H d gs) (hp : H p = Option.some o) (hk : cellK o = true) : ErrD (ρ.cel p) H d gs := by
  rcases h with ⟨dd, h1, h2, h3⟩ | h
  · refine .inl ⟨dd, h1, fun q => ?_, h3⟩
    rcases mem_cel.mp q with q | q
    · exact h2 q
    · subst q
      rw [h3] at hp
      cases hp
      cases hk
  · exact .inr h
mutual
theorem RV.cel {o : HO} (w : p ∉ ρ.z) (hp : H p = Option.some o) (hk : cellK o = true) : ∀ (x : Vl) {v : V}, RV K ρ H x v → RV K (ρ.cel p) H x v
  | .non, _, h => h
  | .bl _, _, h => h
  | .int _, _, h => h
  | .str _, _, h => h
  | .ty _, _, h => h
  | .glo _, _, h => h
  | .tup xs, _, ⟨a, vs, h1, h2, h3⟩ => ⟨a, vs, h1, tup_cel h2 hp hk, RVs.cel w hp hk xs h3⟩
  | .lst xs, _, ⟨a, vs, h1, n, h2, h3⟩ => ⟨a, vs, h1, nz_cel w n, h2, RVs.cel w hp hk xs h3⟩
  | .frl xs, _, ⟨a, vs, h1, h2, h3⟩ => ⟨a, vs, h1, lst_cel h2 hp hk, RVs.cel w hp hk xs h3⟩
  | .dic xs, _, ⟨a, vs, h1, n, h2, h3⟩ => ⟨a, vs, h1, nz_cel w n, h2, RKs.cel w hp hk xs h3⟩
  | .dit xs, _, ⟨a, vs, h1, n, h2, h3⟩ => ⟨a, vs, h1, nz_cel w n, h2, RTs.cel w hp hk xs h3⟩
  | .ins c fs, _, ⟨a, dx, gs, h1, n, h2, h3⟩ => ⟨a, dx, gs, h1, nz_cel w n, h2, RFs.cel w hp hk fs h3⟩
  | .obj n, _, ⟨a, h1, h2⟩ => ⟨a, h1, (List.getElem?_append_left (List.getElem?_eq_some_iff.mp h2).1).trans h2⟩
  | .err c fs, _, ⟨a, d, gs, h1, n, h2, h3, h4⟩ => ⟨a, d, gs, h1, exq_cel n h2 hp hk, h2, errD_cel h3 hp hk, RFs.cel w hp hk fs h4⟩
theorem RVs.cel {o : HO} (w : p ∉ ρ.z) (hp : H p = Option.some o) (hk : cellK o = true) : ∀ (xs : List Vl) {vs : List V}, RVs K ρ H xs vs → RVs K (ρ.cel p) H xs vs
  | [], _, h => h
  | x :: xs, _, ⟨v, r, h1, h2, h3⟩ => ⟨v, r, h1, RV.cel w hp hk x h2, RVs.cel w hp hk xs h3⟩
theorem RKs.cel {o : HO} (w : p ∉ ρ.z) (hp : H p = Option.some o) (hk : cellK o = true) : ∀ (xs : List (Key × Vl)) {vs : List (Key × V)}, RKs K ρ H xs vs → RKs K (ρ.cel p) H xs vs
  | [], _, h => h
  | (k, x) :: xs, _, ⟨v, r, h1, h2, h3⟩ => ⟨v, r, h1, RV.cel w hp hk x h2, RKs.cel w hp hk xs h3⟩
theorem RTs.cel {o : HO} (w : p ∉ ρ.z) (hp : H p = Option.some o) (hk : cellK o = true) : ∀ (xs : List (List Key × Vl)) {vs : List (List Key × V)}, RTs K ρ H xs vs → RTs K (ρ.cel p) H xs vs
  | [], _, h => h
  | (k, x) :: xs, _, ⟨v, r, h1, h2, h3⟩ => ⟨v, r, h1, RV.cel w hp hk x h2, RTs.cel w hp hk xs h3⟩
theorem RFs.cel {o : HO} (w : p ∉ ρ.z) (hp : H p = Option.some o) (hk : cellK o = true) : ∀ (xs : List (Str × Vl)) {vs : List (Str × V)}, RFs K ρ H xs vs → RFs K (ρ.cel p) H xs vs
  | [], _, h => h
  | (k, x) :: xs, _, ⟨v, r, h1, h2, h3⟩ => ⟨v, r, h1, RV.cel w hp hk x h2, RFs.cel w hp hk xs h3⟩
end
theorem RC.frz (w : p ∉ ρ.c) : ∀ {c : Cell}, RC K ρ H a c → RC K (ρ.frz p) H a c
  | .lst xs, ⟨vs, h1, h2⟩ => ⟨vs, h1, h2.frz w⟩
  | .dic xs, ⟨vs, h1, h2⟩ => ⟨vs, h1, h2.frz w⟩
  | .dit xs, ⟨vs, h1, h2⟩ => ⟨vs, h1, h2.frz w⟩
  | .ins _ xs, ⟨dx, vs, h1, h2⟩ => ⟨dx, vs, h1, h2.frz w⟩
theorem RC.cel {o : HO} (w : p ∉ ρ.z) (hp : H p = Option.some o) (hk : cellK o = true) : ∀ {c : Cell}, RC K ρ H a c → RC K (ρ.cel p) H a c
  | .lst xs, ⟨vs, h1, h2⟩ => ⟨vs, h1, h2.cel w hp hk⟩
  | .dic xs, ⟨vs, h1, h2⟩ => ⟨vs, h1, h2.cel w hp hk⟩
  | .dit xs, ⟨vs, h1, h2⟩ => ⟨vs, h1, h2.cel w hp hk⟩
  | .ins _ xs, ⟨dx, vs, h1, h2⟩ => ⟨dx, vs, h1, h2.cel w hp hk⟩
theorem RM.toFrz {o : HO} (h : RM K ρ m H) (w : p ∉ ρ.c) (hp : H p = Option.some o) : RM K (ρ.frz p) m H :=
  ⟨h.nd, h.len, fun n c a h1 h2 => (h.at_ n c a h1 h2).frz w, fun b hb => by
    rcases mem_frz.mp hb with q | q
    · exact h.zt b q
    · rw [q]
      exact ⟨w, o, hp⟩⟩
theorem RM.toCel {o : HO} (h : RM K ρ m H) (w : p ∉ ρ.c) (wz : p ∉ ρ.z) (hp : H p = Option.some o) (hk : cellK o = true) (hc : RC K ρ H p c) : RM K (ρ.cel p) (m ++ [c]) H := by
  refine ⟨?_, by show (ρ.c ++ [p]).length = _; rw [List.length_append, List.length_append, h.len]; rfl, fun n d a h1 h2 => ?_, fun b hb => ?_⟩
  · show (ρ.c ++ [p]).Nodup
    rw [List.nodup_append]
    refine ⟨h.nd, by simp, fun x hx y hy e => ?_⟩
    rw [List.mem_singleton] at hy
    subst hy e
    exact w hx
  · have h2' : (ρ.c ++ [p])[n]? = Option.some a := h2
    by_cases q : n < m.length
    · rw [List.getElem?_append_left q] at h1
      rw [List.getElem?_append_left (by rw [h.len]; exact q)] at h2'
      exact (h.at_ n d a h1 h2').cel wz hp hk
    · rw [List.getElem?_append_right (by omega)] at h1
      rw [List.getElem?_append_right (by rw [h.len]; omega), h.len] at h2'
      have e0 : n - m.length = 0 := by
        have := (List.getElem?_eq_some_iff.mp h1).1
        simp at this
        omega
      rw [e0] at h1 h2'
      simp at h1 h2'
      subst h1 h2'
      exact hc.cel wz hp hk
  · obtain ⟨h1, h2⟩ := h.zt b hb
    refine ⟨fun q => ?_, h2⟩
    rcases mem_cel.mp q with q | q
    · exact h1 q
    · rw [q] at hb
      exact wz hb
theorem ext_set {o : HO} (ha : a ∈ ρ.c) : Ext ρ H ρ (upd H a o) :=
  ⟨List.prefix_refl _, fun _ h => h, fun b u e n => by rw [upd_ne (show b ≠ a from fun q => n (by rw [q]; exact ha))]; exact e, fun b u e => upd_stay e, fun b h => .inl h, fun b h => .inl h⟩
/-- a cell is changed -/
theorem RM.put {o : HO} (h : RM K ρ m H) (hn : ρ.c[n]? = Option.some a) (hc : RC K ρ (upd H a o) a c) : RM K ρ (m.set n c) (upd H a o) := by
  refine ⟨h.nd, by rw [List.length_set]; exact h.len, fun i d b h1 h2 => ?_, fun b hb => ⟨(h.zt b hb).1, let ⟨_, e⟩ := (h.zt b hb).2; upd_stay e⟩⟩
  by_cases q : n = i
  · subst q
    have hl : n < m.length := by rw [← h.len]; exact (List.getElem?_eq_some_iff.mp hn).1
    rw [List.getElem?_set_self hl] at h1
    cases h1
    rw [hn] at h2
    cases h2
    exact hc
  · rw [List.getElem?_set_ne q] at h1
    exact (h.at_ i d b h1 h2).mono (ext_set (List.mem_of_getElem? hn)) fun u e => by rw [upd_ne (h.ne h2 hn (Ne.symm q))]; exact e
end
/-! ### slots -/
def RE (K : PySem.W.Frag) (ρ : Lay) (H : Hp) (env : Ev) (σ : L2.St) : Prop := env.length = σ.length ∧ ∀ (i : Nat) (x : Vl), env[i]? = some (some x) → ∃ v, σ[i]? = some (some v) ∧ RV K ρ H x v
theorem RE.mono {K : PySem.W.Frag} {ρ ρ' : Lay} {H H' : Hp} {env : Ev} {σ : L2.St} (h : RE K ρ H env σ) (e : Ext ρ H ρ' H') : RE K ρ' H' env σ :=
  ⟨h.1, fun i x q => let ⟨v, h1, h2⟩ := h.2 i x q; ⟨v, h1, h2.mono e⟩⟩
theorem RE.frz {K : PySem.W.Frag} {ρ : Lay} {H : Hp} {env : Ev} {σ : L2.St} {p : Addr} (h : RE K ρ H env σ) (w : p ∉ ρ.c) : RE K (ρ.frz p) H env σ :=
  ⟨h.1, fun i x q => let ⟨v, h1, h2⟩ := h.2 i x q; ⟨v, h1, h2.frz w⟩⟩
theorem RE.cel {K : PySem.W.Frag} {ρ : Lay} {H : Hp} {env : Ev} {σ : L2.St} {p : Addr} {o : HO} (h : RE K ρ H env σ) (w : p ∉ ρ.z) (hp : H p = Option.some o) (hk : cellK o = true) : RE K (ρ.cel p) H env σ :=
  ⟨h.1, fun i x q => let ⟨v, h1, h2⟩ := h.2 i x q; ⟨v, h1, h2.cel w hp hk⟩⟩
theorem RE.set {K : PySem.W.Frag} {ρ : Lay} {H : Hp} {env : Ev} {σ : L2.St} {i : Nat} {x : Vl} {v : V} (h : RE K ρ H env σ) (q : RV K ρ H x v) : RE K ρ H (env.set i (some x)) (σ.set i (some v)) := by
  refine ⟨by rw [List.length_set, List.length_set]; exact h.1, fun j y e => ?_⟩
  by_cases hj : i = j
  · subst hj
    have hl : i < env.length := by simpa using (List.getElem?_eq_some_iff.mp e).1
    rw [List.getElem?_set_self hl] at e
    cases e
    exact ⟨v, by rw [List.getElem?_set_self (by rw [← h.1]; exact hl)], q⟩
  · rw [List.getElem?_set_ne hj] at e
    rw [List.getElem?_set_ne hj]
    exact h.2 j y e
theorem RE.unset {K : PySem.W.Frag} {ρ : Lay} {H : Hp} {env : Ev} {σ : L2.St} {i : Nat} {o : Option V} (h : RE K ρ H env σ) : RE K ρ H (env.set i none) (σ.set i o) := by
  refine ⟨by rw [List.length_set, List.length_set]; exact h.1, fun j y e => ?_⟩
  by_cases hj : i = j
  · subst hj
    have hl : i < env.length := by simpa using (List.getElem?_eq_some_iff.mp e).1
    rw [List.getElem?_set_self hl] at e
    cases e
  · rw [List.getElem?_set_ne hj] at e
    rw [List.getElem?_set_ne hj]
    exact h.2 j y e
end Z
namespace Z
open PySem PySem.Spec PyProof.Rows L2
/-- whether the exceptions that a def lets out may bear a context -/
class Kd where
  hot : Bool
section
variable [Kd]
/-- what is known of such an exception's object -/
def Zk (c : Value) (d : Option Addr) : Obj → Prop := fun o => Zc c d o ∧ (Kd.hot = false → PXN.CtxN o)
theorem Zk.steady {c : Value} {d : Option Addr} : PXN.Steady1 (Zk c d) := fun o v h => ⟨⟨PXN.steady_cls o v h.1.1, PXN.steady_dict o v h.1.2⟩, fun q => PXN.steady_ctx o v (h.2 q)⟩
def CXk (P : Program) (w : World) : CXT := if Kd.hot = true then L2.CX P w else L2N.CX P w
def XEk (X : Cx) (W : WX) (u : Value) (s' : Shared) : Prop :=
  ∃ (a : Addr) (B : Heap) (sI : Shared) (pins : List (Addr × Obj)) (σ : L2.St) (H : Hp) (cls : Value) (d : Option Addr), u = .ref a ∧ L2.Inv X pins σ H sI ∧
    (∀ b o, sI.heap.get? b = some o → b ∉ frs X.stack → B.get? b = some o) ∧ sI.heap.UpToSlots s'.heap ∧ L2.Sky B X.stack a (Zk cls d) X.env.locals s'.heap ∧ H a = none ∧ s'.os = sI.os ∧ AllBare s'.gens ∧ W cls d σ H
theorem trace_up {h B : Heap} {a : Addr} {Y Y' : Obj → Prop} {fl : Value} (z : ∀ o, Y o → Y' o) (x : HandSPX.TracedZ h B a Y fl) : HandSPX.TracedZ h B a Y' fl := by
  rcases x with ⟨oe, vs, T, oT, ts, e, y, rest⟩
  exact ⟨oe, vs, T, oT, ts, e, z oe y, rest⟩
theorem sky_up {B h : Heap} {l : List Env} {a L : Addr} {Y Y' : Obj → Prop} (z : ∀ o, Y o → Y' o) (x : L2.Sky B l a Y L h) : L2.Sky B l a Y' L h := by
  rcases x with ⟨q1, q2, q3, oe, vs, q4, y, q5⟩ | ⟨q1, q2, q3, t⟩ | ⟨q1, q2, q3, t⟩
  · exact .inl ⟨q1, q2, q3, oe, vs, q4, z oe y, q5⟩
  · exact .inr (.inl ⟨q1, q2, q3, trace_up z t⟩)
  · exact .inr (.inr ⟨q1, q2, q3, trace_up z t⟩)
theorem cxk_no {P : Program} {w : World} {l : List Env} {H : Hp} {s s' : Shared} {u : Value} (c : CXk P w l H s (fun _ _ _ => False) u s') : False := by
  unfold CXk at c
  split at c
  · rcases c with ⟨_, _, _, _, _, _, _, _, _, _, _, _, q⟩
    exact q
  · rcases c with ⟨_, _, _, _, _, _, _, _, _, _, _, _, q⟩
    exact q
structure Takes (X : Cx) (W : WX) : Prop where
  n : L2N.Takes X W
  c : Kd.hot = true → L2.Takes X W
theorem Takes.imp {X : Cx} {W W' : WX} (t : Takes X W) (h : ∀ c d σ H, W' c d σ H → W c d σ H) : Takes X W' := ⟨t.n.imp h, fun q => (t.c q).imp h⟩
theorem Takes.call {X : Cx} {W : WX} {E : XK} {pins : List (Addr × Obj)} {σ : L2.St} {H : Hp} {s : Shared} (tk : Takes X W) (I : L2.Inv X pins σ H s) (hW : ∀ cls d H', E cls d H' → W cls d σ H') {u : Value} {s' : Shared} (c : CXk X.prog X.w X.stack H s E u s') : X.xe u s' := by
  unfold CXk at c
  by_cases q : Kd.hot = true
  · rw [if_pos q] at c
    exact tk.c q _ _ (L2.XE.of_call I hW c)
  · rw [if_neg q] at c
    exact tk.n _ _ (L2N.XE.of_call I hW c)
theorem Takes.up {X : Cx} {W : WX} (tk : Takes X W) {u : Value} {s' : Shared} (x : XEk X W u s') : X.xe u s' := by
  rcases x with ⟨a, B, sI, pins, σ, H, cls, d, x1, x2, x3, x4, sky, x5⟩
  by_cases q : Kd.hot = true
  · exact tk.c q u s' ⟨a, B, sI, pins, σ, H, cls, d, x1, x2, x3, x4, sky_up (fun o z => z.1) sky, x5⟩
  · exact tk.n u s' ⟨a, B, sI, pins, σ, H, cls, d, x1, x2, x3, x4, sky_up (fun o z => ⟨z.1.1, z.1.2, z.2 (by simpa using q)⟩) sky, x5⟩
theorem Takes.of {X : Cx} {W : WX} (h : ∀ u s', XEk X W u s' → X.xe u s') : Takes X W where
  n u s' x := by
    rcases x with ⟨a, B, sI, pins, σ, H, cls, d, x1, x2, x3, x4, sky, x5⟩
    exact h u s' ⟨a, B, sI, pins, σ, H, cls, d, x1, x2, x3, x4, sky_up (fun o z => ⟨z.zc, fun _ => z.2.2⟩) sky, x5⟩
  c q u s' x := by
    rcases x with ⟨a, B, sI, pins, σ, H, cls, d, x1, x2, x3, x4, sky, x5⟩
    exact h u s' ⟨a, B, sI, pins, σ, H, cls, d, x1, x2, x3, x4, sky_up (fun o z => ⟨z, fun f => by rw [q] at f; cases f⟩) sky, x5⟩
theorem takes_of {X : Cx} {E : XK} (hs : X.stack = X.env :: X.outer) (hf : X.env.frame = some X.env.locals) (hex : X.ex = []) {E₁ : Value → Shared → Prop}
    (hx : X.xe = fun e s' => wpAny (model X.prog X.w) X.A (leaving X.env e) (fun _ s'' => CXk X.prog X.w X.outer X.H_0 X.s_0 E e s'') E₁ s') : Takes X (fun cls d _ H => E cls d H) := by
  unfold CXk at hx
  by_cases q : Kd.hot = true
  · simp only [q, if_true] at hx
    have t := L2.takes_of hs hf hex hx
    exact ⟨fun u s' x => by
      rcases x with ⟨a, B, sI, pins, σ, H, cls, d, x1, x2, x3, x4, sky, x5⟩
      exact t u s' ⟨a, B, sI, pins, σ, H, cls, d, x1, x2, x3, x4, sky_up (fun o z => z.zc) sky, x5⟩, fun _ => t⟩
  · simp only [q, if_false, Bool.false_eq_true] at hx
    exact ⟨L2N.takes_of hs hf hex hx, fun f => absurd f q⟩
theorem takesNo {X : Cx} : Takes X (fun _ _ _ _ => False) := .of fun u s' x => by
  rcases x with ⟨_, _, _, _, _, _, _, _, _, _, _, _, _, _, _, _, q⟩
  exact q.elim
end
variable [Kd]
/-- an exception in the air: its class by its name, its fields -/
def XD (K : PySem.W.Frag) (ρ : Lay) (H : Hp) (dd : Option Addr) (fs : List (Str × Vl)) : Prop :=
  match dd with
  | some d => ∃ gs, H d = some (.xd gs) ∧ d ∉ ρ.c ∧ RFs K ρ H fs gs
  | none => fs = []
theorem XD.mono {K : PySem.W.Frag} {ρ ρ' : Lay} {H H' : Hp} {dd : Option Addr} {fs : List (Str × Vl)} (h : XD K ρ H dd fs) (e : Ext ρ H ρ' H') : XD K ρ' H' dd fs := by
  cases dd with
  | none => exact h
  | some d =>
    obtain ⟨gs, h1, n, h2⟩ := h
    exact ⟨gs, e.keep d _ h1 n, e.out h1 n, h2.mono e⟩
/-- what is wanted behind a result -/
def Po {α β : Type} (K : PySem.W.Frag) (ρ : Lay) (H : Hp) (Rel : Lay → Hp → α → β → Prop) (W : Value → Option Addr → Hp → Prop) (Q : β → Hp → Prop) (r : R α) (m' : Mem) : Prop :=
  ∀ ρ' H', RM K ρ' m' H' → Ext ρ H ρ' H' → match r with
    | .ok x => ∀ v, Rel ρ' H' x v → Q v H'
    | .ex c fs => ∀ dd, XD K ρ' H' dd fs → W (.ref (He.ga K c)) dd H'
theorem Po.mono {α β : Type} {K : PySem.W.Frag} {ρ ρ1 : Lay} {H H1 : Hp} {Rel : Lay → Hp → α → β → Prop} {W : Value → Option Addr → Hp → Prop} {Q : β → Hp → Prop} {r : R α} {m' : Mem}
    (h : Po K ρ H Rel W Q r m') (e : Ext ρ H ρ1 H1) : Po K ρ1 H1 Rel W Q r m' := fun ρ' H' M E => h ρ' H' M (e.trans E)
/-- a state -/
structure S (K : PySem.W.Frag) (ρ : Lay) (env : Ev) (m : Mem) (σ : L2.St) (H : Hp) : Prop where
  mem : RM K ρ m H
  env : RE K ρ H env σ
theorem S.to {K : PySem.W.Frag} {ρ ρ' : Lay} {env : Ev} {m m' : Mem} {σ : L2.St} {H H' : Hp} (s : S K ρ env m σ H) (e : Ext ρ H ρ' H') (M : RM K ρ' m' H') : S K ρ' env m' σ H' := ⟨M, s.env.mono e⟩
def rdE (K : PySem.W.Frag) (W : WX) (d : DE) : TE := fun σ H Q => ∃ ρ env m r m', S K ρ env m σ H ∧ d env m = some (r, m') ∧ Po K ρ H (RV K) (fun c dd H' => W c dd σ H') Q r m'
abbrev DT := Ev → Mem → Option (R Bool × Mem)
def rdT (K : PySem.W.Frag) (W : WX) (d : DT) : TT := fun σ H Q => ∃ ρ env m r m', S K ρ env m σ H ∧ d env m = some (r, m') ∧ Po K ρ H (fun _ _ (b c : Bool) => b = c) (fun c dd H' => W c dd σ H') Q r m'
abbrev DA := Ev → Mem → Option (R (List Vl) × Mem)
def rdA (K : PySem.W.Frag) (W : WX) (d : DA) : TA := fun σ H Q => ∃ ρ env m r m', S K ρ env m σ H ∧ d env m = some (r, m') ∧ Po K ρ H (RVs K) (fun c dd H' => W c dd σ H') Q r m'
/-- an expression whose value is a new list (tuple): what it holds -/
def rdL (K : PySem.W.Frag) (W : WX) (d : DA) : TE := fun σ H Q => ∃ ρ env m r m', S K ρ env m σ H ∧ d env m = some (r, m') ∧
  Po K ρ H (fun ρ' H' xs v => ∃ a vs, v = .ref a ∧ Own ρ' H a ∧ H' a = some (.lst vs) ∧ vs.length ≤ sizeLine ∧ RVs K ρ' H' xs vs) (fun c dd H' => W c dd σ H') Q r m'
structure SE (X : Cx) (e : Expr) (d : DE) : Prop where
  run : ∀ W, Takes X W → PE X e (rdE X.K W d)
structure ST (X : Cx) (e : Expr) (d : DT) : Prop where
  run : ∀ W, Takes X W → PT X e (rdT X.K W d)
structure SW (X : Cx) (e : Expr) (d : DT) : Prop where
  run : ∀ W, Takes X W → PW X e (rdT X.K W d)
structure SA (X : Cx) (es : List Expr) (d : DA) : Prop where
  run : ∀ W, Takes X W → PA X es (rdA X.K W d)
structure SL (X : Cx) (e : Expr) (d : DA) : Prop where
  run : ∀ W, Takes X W → PE X e (rdL X.K W d)
/-- flows -/
inductive Fl where
  | nx (env : Ev) | rt (v : Vl) | bk (env : Ev) | ct (env : Ev) | ex (c : Str) (fs : List (Str × Vl)) (env : Ev)
abbrev DS := Ev → Mem → Option (Fl × Mem)
def PoS (K : PySem.W.Frag) (ρ : Lay) (H : Hp) (W : WX) (D : Ends) (f : Fl) (m' : Mem) : Prop :=
  ∀ ρ' H', RM K ρ' m' H' → Ext ρ H ρ' H' → match f with
    | .nx env => ∀ σ, RE K ρ' H' env σ → D.nx σ H'
    | .bk env => ∀ σ, RE K ρ' H' env σ → D.bk σ H'
    | .ct env => ∀ σ, RE K ρ' H' env σ → D.ct σ H'
    | .rt x => ∀ v, RV K ρ' H' x v → D.rt v H'
    | .ex c fs env => ∀ σ, RE K ρ' H' env σ → ∀ dd, XD K ρ' H' dd fs → W (.ref (He.ga K c)) dd σ H'
theorem PoS.mono {K : PySem.W.Frag} {ρ ρ1 : Lay} {H H1 : Hp} {W : WX} {D : Ends} {f : Fl} {m' : Mem} (h : PoS K ρ H W D f m') (e : Ext ρ H ρ1 H1) : PoS K ρ1 H1 W D f m' := fun ρ' H' M E => h ρ' H' M (e.trans E)
def rdS (K : PySem.W.Frag) (W : WX) (d : DS) : TS := fun D σ H => ∃ ρ env m f m', S K ρ env m σ H ∧ d env m = some (f, m') ∧ PoS K ρ H W D f m'
structure SS (X : Cx) (st : Stmt) (d : DS) : Prop where
  run : ∀ W, Takes X W → PS X st (rdS X.K W d)
structure SSs (X : Cx) (st : List Stmt) (d : DS) : Prop where
  run : ∀ W, Takes X W → PSs X st (rdS X.K W d)
section
variable {X : Cx} {e a b c : Expr} {pos : Pos}
theorem impPE {t t' : TE} (h : PE X e t) (q : ∀ σ H Q, t' σ H Q → t σ H Q) : PE X e t' := ⟨fun pins s σ H Q I x => h.run pins s σ H Q I (q σ H Q x)⟩
theorem impPT {t t' : TT} (h : PT X e t) (q : ∀ σ H Q, t' σ H Q → t σ H Q) : PT X e t' := ⟨fun pins s σ H Q I x => h.run pins s σ H Q I (q σ H Q x)⟩
theorem impPW {t t' : TT} (h : PW X e t) (q : ∀ σ H Q, t' σ H Q → t σ H Q) : PW X e t' := ⟨fun w pins s σ H Q I x => h.run w pins s σ H Q I (q σ H Q x)⟩
theorem impPA {es : List Expr} {t t' : TA} (h : PA X es t) (q : ∀ σ H Q, t' σ H Q → t σ H Q) : PA X es t' := ⟨fun p pins s σ H Q I x => h.run p pins s σ H Q I (q σ H Q x)⟩
theorem impPS {st : Stmt} {t t' : TS} (h : PS X st t) (q : ∀ D σ H, t' D σ H → t D σ H) : PS X st t' := ⟨fun pins s σ H D I x => h.run pins s σ H D I (q D σ H x)⟩
theorem impPSs {st : List Stmt} {t t' : TS} (h : PSs X st t) (q : ∀ D σ H, t' D σ H → t D σ H) : PSs X st t' := ⟨fun pins s σ H D I x => h.run pins s σ H D I (q D σ H x)⟩
end
section
variable {K : PySem.W.Frag} {W : WX} {ρ : Lay} {env : Ev} {m m1 : Mem} {σ : L2.St} {H : Hp} {d : DE} {dt : DT} {da : DA}
/-- an expression ends in a value -/
theorem goE {x : Vl} {Q : VK} (s : S K ρ env m σ H) (e : d env m = some (.ok x, m1)) (k : ∀ ρ' H' v, S K ρ' env m1 σ H' → Ext ρ H ρ' H' → RV K ρ' H' x v → Q v H') : rdE K W d σ H Q :=
  ⟨ρ, env, m, _, _, s, e, fun ρ' H' M E v r => k ρ' H' v (s.to E M) E r⟩
theorem exE {c : Str} {fs : List (Str × Vl)} {Q : VK} (s : S K ρ env m σ H) (e : d env m = some (.ex c fs, m1)) (k : ∀ ρ' H' dd, S K ρ' env m1 σ H' → Ext ρ H ρ' H' → XD K ρ' H' dd fs → W (.ref (He.ga K c)) dd σ H') : rdE K W d σ H Q :=
  ⟨ρ, env, m, _, _, s, e, fun ρ' H' M E dd r => k ρ' H' dd (s.to E M) E r⟩
theorem goT {x : Bool} {Q : Bool → Hp → Prop} (s : S K ρ env m σ H) (e : dt env m = some (.ok x, m1)) (k : ∀ ρ' H', S K ρ' env m1 σ H' → Ext ρ H ρ' H' → Q x H') : rdT K W dt σ H Q :=
  ⟨ρ, env, m, _, _, s, e, fun ρ' H' M E v r => by subst r; exact k ρ' H' (s.to E M) E⟩
theorem exT {c : Str} {fs : List (Str × Vl)} {Q : Bool → Hp → Prop} (s : S K ρ env m σ H) (e : dt env m = some (.ex c fs, m1)) (k : ∀ ρ' H' dd, S K ρ' env m1 σ H' → Ext ρ H ρ' H' → XD K ρ' H' dd fs → W (.ref (He.ga K c)) dd σ H') : rdT K W dt σ H Q :=
  ⟨ρ, env, m, _, _, s, e, fun ρ' H' M E dd r => k ρ' H' dd (s.to E M) E r⟩
theorem goA {xs : List Vl} {Q : List V → Hp → Prop} (s : S K ρ env m σ H) (e : da env m = some (.ok xs, m1)) (k : ∀ ρ' H' vs, S K ρ' env m1 σ H' → Ext ρ H ρ' H' → RVs K ρ' H' xs vs → Q vs H') : rdA K W da σ H Q :=
  ⟨ρ, env, m, _, _, s, e, fun ρ' H' M E v r => k ρ' H' v (s.to E M) E r⟩
theorem exA {c : Str} {fs : List (Str × Vl)} {Q : List V → Hp → Prop} (s : S K ρ env m σ H) (e : da env m = some (.ex c fs, m1)) (k : ∀ ρ' H' dd, S K ρ' env m1 σ H' → Ext ρ H ρ' H' → XD K ρ' H' dd fs → W (.ref (He.ga K c)) dd σ H') : rdA K W da σ H Q :=
  ⟨ρ, env, m, _, _, s, e, fun ρ' H' M E dd r => k ρ' H' dd (s.to E M) E r⟩
theorem goL {xs : List Vl} {Q : VK} (s : S K ρ env m σ H) (e : da env m = some (.ok xs, m1)) (k : ∀ ρ' H' a vs, S K ρ' env m1 σ H' → Ext ρ H ρ' H' → Own ρ' H a → H' a = some (.lst vs) → vs.length ≤ sizeLine → RVs K ρ' H' xs vs → Q (.ref a) H') : rdL K W da σ H Q :=
  ⟨ρ, env, m, _, _, s, e, fun ρ' H' M E v r => by
    obtain ⟨a, vs, rfl, h1, h3, h4, h5⟩ := r
    exact k ρ' H' a vs (s.to E M) E h1 h3 h4 h5⟩
theorem exL {c : Str} {fs : List (Str × Vl)} {Q : VK} (s : S K ρ env m σ H) (e : da env m = some (.ex c fs, m1)) (k : ∀ ρ' H' dd, S K ρ' env m1 σ H' → Ext ρ H ρ' H' → XD K ρ' H' dd fs → W (.ref (He.ga K c)) dd σ H') : rdL K W da σ H Q :=
  ⟨ρ, env, m, _, _, s, e, fun ρ' H' M E dd r => k ρ' H' dd (s.to E M) E r⟩
end
/-! ### the parts -/
def bindR {α β : Type} (x : Option (R α × Mem)) (f : α → Mem → Option (R β × Mem)) : Option (R β × Mem) := match x with
  | none => none
  | some (.ok a, m) => f a m
  | some (.ex c fs, m) => some (.ex c fs, m)
def dC (v : Vl) : DE := fun _ m => some (.ok v, m)
def dVar (i : Nat) : DE := fun env m => match env[i]? with
  | some (some v) => some (.ok v, m)
  | _ => none
/-- a two-place operation by values -/
abbrev F2 := Vl → Vl → Mem → Option (Vl × Mem)
def okR {α : Type} : Option (α × Mem) → Option (R α × Mem)
  | none => none
  | some (a, m) => some (.ok a, m)
def d2 (f : F2) (da db : DE) : DE := fun env m => bindR (da env m) fun x m => bindR (db env m) fun y m => okR (f x y m)
def SF2 (K : PySem.W.Frag) (f : F2) (r : R2) : Prop := ∀ (ρ : Lay) (m : Mem) (H : Hp) (x y : Vl) (v u : V) (z : Vl) (m' : Mem) (Q : VK), RM K ρ m H → RV K ρ H x v → RV K ρ H y u → f x y m = some (z, m') →
  (∀ ρ' H' w, RM K ρ' m' H' → Ext ρ H ρ' H' → RV K ρ' H' z w → Q w H') → r v u H Q
theorem okR_some {α : Type} {x : Option (α × Mem)} {r : R α} {m : Mem} (h : okR x = some (r, m)) : ∃ a, x = some (a, m) ∧ r = .ok a := by
  cases x with
  | none => cases h
  | some p => cases h; exact ⟨_, rfl, rfl⟩
section
variable {X : Cx} {e a b c : Expr} {pos : Pos} {da db dc : DE}
theorem se_of {v : V} {x : Vl} (h : PE X e (tC v)) (r : ∀ ρ H, RV X.K ρ H x v) : SE X e (dC x) := ⟨fun W tk => impPE h fun σ H Q ⟨ρ, env, m, z, m', s, e, p⟩ => by
  cases e
  exact p ρ H s.mem .refl v (r ρ H)⟩
theorem se_int {i : Int} {j : Nat} : SE X (.Constant (.int i) j pos) (dC (.int i)) := se_of pe_int fun _ _ => rfl
theorem se_bl {i : Bool} {j : Nat} : SE X (.Constant (.bool i) j pos) (dC (.bl i)) := se_of pe_bl fun _ _ => rfl
theorem se_non {j : Nat} : SE X (.Constant .none j pos) (dC .non) := se_of pe_non fun _ _ => rfl
theorem se_str {i : Str} {j : Nat} : SE X (.Constant (.str i) j pos) (dC (.str i)) := se_of pe_str fun _ _ => rfl
theorem se_var {i : Nat} {x : Str} (hN : X.N[i]? = some x) (hv : Vis X.env.scope x) (hd : (x == ("__debug__" : Str)) = false := by decide) (hcd : (x == ("__classdict__" : Str)) = false := by decide) : SE X (.Name x pos) (dVar i) := ⟨fun W tk =>
  impPE (pe_var hN hv hd hcd) fun σ H Q ⟨ρ, env, m, z, m', s, e, p⟩ => by
    unfold dVar at e
    split at e
    · rename_i v hv'
      cases e
      obtain ⟨u, h1, h2⟩ := s.env.2 _ _ hv'
      exact ⟨u, h1, p ρ H s.mem .refl u h2⟩
    · cases e⟩
theorem bindE {β γ : Type} {K : PySem.W.Frag} {W : WX} {ρ : Lay} {env : Ev} {m m' : Mem} {σ : L2.St} {H : Hp} {d : DE} {f : Vl → Mem → Option (R β × Mem)} {z : R β} {Q : VK} {Rel : Lay → Hp → β → γ → Prop} {Qf : γ → Hp → Prop}
    (s : S K ρ env m σ H) (e : bindR (d env m) f = some (z, m')) (p : Po K ρ H Rel (fun c dd H' => W c dd σ H') Qf z m')
    (k : ∀ x m1 ρ' H' v, S K ρ' env m1 σ H' → Ext ρ H ρ' H' → RV K ρ' H' x v → f x m1 = some (z, m') → Po K ρ' H' Rel (fun c dd H' => W c dd σ H') Qf z m' → Q v H') : rdE K W d σ H Q := by
  unfold bindR at e
  split at e
  · cases e
  · rename_i x m1 h
    exact goE s h fun ρ' H' v s' E r => k x m1 ρ' H' v s' E r e (p.mono E)
  · rename_i c fs m1 h
    cases e
    exact exE s h fun ρ' H' dd s' E r => p ρ' H' s'.mem E dd r
theorem se_2 {f : F2} {r : R2} {op : Operator} (ho : OpR X (binaryOp op) r) (hf : SF2 X.K f r) (ha : SE X a da) (hb : SE X b db) : SE X (.BinOp a op b pos) (d2 f da db) := ⟨fun W tk =>
  impPE (pe_op ho (ha.run W tk) (hb.run W tk)) fun σ H Q ⟨ρ, env, m, z, m', s, e, p⟩ =>
    bindE s e p fun x m1 ρ1 H1 v s1 E1 r1 e1 p1 => bindE s1 e1 p1 fun y m2 ρ2 H2 u s2 E2 r2 e2 p2 => by
      obtain ⟨w, h1, rfl⟩ := okR_some e2
      exact hf ρ2 m2 H2 x y v u w m' Q s2.mem (r1.mono E2) r2 h1 fun ρ' H' u' M E r => p2 ρ' H' M E u' r⟩
end
end Z
namespace Z
open PySem PySem.Spec PyProof.Rows L2
variable [Kd]
section
variable {α : Type} {K : PySem.W.Frag} {W : WX} {ρ : Lay} {env : Ev} {m m' : Mem} {σ : L2.St} {H : Hp}
/-! ### binds to any end -/
theorem bindE' {β : Type} {d : DE} {f : Vl → Mem → Option (R β × Mem)} {z : R β} {Q : VK} {G : Prop}
    (s : S K ρ env m σ H) (e : bindR (d env m) f = some (z, m'))
    (kx : ∀ c fs ρ' H' dd, z = .ex c fs → S K ρ' env m' σ H' → Ext ρ H ρ' H' → XD K ρ' H' dd fs → W (.ref (He.ga K c)) dd σ H')
    (k : ∀ x m1 ρ' H' v, S K ρ' env m1 σ H' → Ext ρ H ρ' H' → RV K ρ' H' x v → f x m1 = some (z, m') → Q v H') : rdE K W d σ H Q := by
  unfold bindR at e
  split at e
  · cases e
  · rename_i x m1 h
    exact goE s h fun ρ' H' v s' E r => k x m1 ρ' H' v s' E r e
  · rename_i c fs m1 h
    cases e
    exact exE s h fun ρ' H' dd s' E r => kx c fs ρ' H' dd rfl s' E r
theorem bindT {β γ : Type} {d : DT} {f : Bool → Mem → Option (R β × Mem)} {z : R β} {Q : Bool → Hp → Prop} {Rel : Lay → Hp → β → γ → Prop} {Qf : γ → Hp → Prop}
    (s : S K ρ env m σ H) (e : bindR (d env m) f = some (z, m')) (p : Po K ρ H Rel (fun c dd H' => W c dd σ H') Qf z m')
    (k : ∀ x m1 ρ' H', S K ρ' env m1 σ H' → Ext ρ H ρ' H' → f x m1 = some (z, m') → Po K ρ' H' Rel (fun c dd H' => W c dd σ H') Qf z m' → Q x H') : rdT K W d σ H Q := by
  unfold bindR at e
  split at e
  · cases e
  · rename_i x m1 h
    exact goT s h fun ρ' H' s' E => k x m1 ρ' H' s' E e (p.mono E)
  · rename_i c fs m1 h
    cases e
    exact exT s h fun ρ' H' dd s' E r => p ρ' H' s'.mem E dd r
theorem bindA {β γ : Type} {d : DA} {f : List Vl → Mem → Option (R β × Mem)} {z : R β} {Q : List V → Hp → Prop} {Rel : Lay → Hp → β → γ → Prop} {Qf : γ → Hp → Prop}
    (s : S K ρ env m σ H) (e : bindR (d env m) f = some (z, m')) (p : Po K ρ H Rel (fun c dd H' => W c dd σ H') Qf z m')
    (k : ∀ x m1 ρ' H' v, S K ρ' env m1 σ H' → Ext ρ H ρ' H' → RVs K ρ' H' x v → f x m1 = some (z, m') → Po K ρ' H' Rel (fun c dd H' => W c dd σ H') Qf z m' → Q v H') : rdA K W d σ H Q := by
  unfold bindR at e
  split at e
  · cases e
  · rename_i x m1 h
    exact goA s h fun ρ' H' v s' E r => k x m1 ρ' H' v s' E r e (p.mono E)
  · rename_i c fs m1 h
    cases e
    exact exA s h fun ρ' H' dd s' E r => p ρ' H' s'.mem E dd r
theorem bindL {β γ : Type} {d : DA} {f : List Vl → Mem → Option (R β × Mem)} {z : R β} {Q : VK} {Rel : Lay → Hp → β → γ → Prop} {Qf : γ → Hp → Prop}
    (s : S K ρ env m σ H) (e : bindR (d env m) f = some (z, m')) (p : Po K ρ H Rel (fun c dd H' => W c dd σ H') Qf z m')
    (k : ∀ x m1 ρ' H' a vs, S K ρ' env m1 σ H' → Ext ρ H ρ' H' → Own ρ' H a → H' a = some (.lst vs) → vs.length ≤ sizeLine → RVs K ρ' H' x vs → f x m1 = some (z, m') → Po K ρ' H' Rel (fun c dd H' => W c dd σ H') Qf z m' → Q (.ref a) H') : rdL K W d σ H Q := by
  unfold bindR at e
  split at e
  · cases e
  · rename_i x m1 h
    exact goL s h fun ρ' H' a vs s' E h1 h3 h4 r => k x m1 ρ' H' a vs s' E h1 h3 h4 r e (p.mono E)
  · rename_i c fs m1 h
    cases e
    exact exL s h fun ρ' H' dd s' E r => p ρ' H' s'.mem E dd r
/-! ### .. within statements -/
def bindS {α : Type} (x : Option (R α × Mem)) (env : Ev) (f : α → Mem → Option (Fl × Mem)) : Option (Fl × Mem) := match x with
  | none => none
  | some (.ok a, m) => f a m
  | some (.ex c fs, m) => some (.ex c fs env, m)
theorem sbE {d : DE} {f : Vl → Mem → Option (Fl × Mem)} {z : Fl} {Q : VK} {D : Ends}
    (s : S K ρ env m σ H) (e : bindS (d env m) env f = some (z, m')) (p : PoS K ρ H W D z m')
    (k : ∀ x m1 ρ' H' v, S K ρ' env m1 σ H' → Ext ρ H ρ' H' → RV K ρ' H' x v → f x m1 = some (z, m') → PoS K ρ' H' W D z m' → Q v H') : rdE K W d σ H Q := by
  unfold bindS at e
  split at e
  · cases e
  · rename_i x m1 h
    exact goE s h fun ρ' H' v s' E r => k x m1 ρ' H' v s' E r e (p.mono E)
  · rename_i c fs m1 h
    cases e
    exact exE s h fun ρ' H' dd s' E r => p ρ' H' s'.mem E σ s'.env dd r
theorem sbT {d : DT} {f : Bool → Mem → Option (Fl × Mem)} {z : Fl} {Q : Bool → Hp → Prop} {D : Ends}
    (s : S K ρ env m σ H) (e : bindS (d env m) env f = some (z, m')) (p : PoS K ρ H W D z m')
    (k : ∀ x m1 ρ' H', S K ρ' env m1 σ H' → Ext ρ H ρ' H' → f x m1 = some (z, m') → PoS K ρ' H' W D z m' → Q x H') : rdT K W d σ H Q := by
  unfold bindS at e
  split at e
  · cases e
  · rename_i x m1 h
    exact goT s h fun ρ' H' s' E => k x m1 ρ' H' s' E e (p.mono E)
  · rename_i c fs m1 h
    cases e
    exact exT s h fun ρ' H' dd s' E r => p ρ' H' s'.mem E σ s'.env dd r
theorem sbA {d : DA} {f : List Vl → Mem → Option (Fl × Mem)} {z : Fl} {Q : List V → Hp → Prop} {D : Ends}
    (s : S K ρ env m σ H) (e : bindS (d env m) env f = some (z, m')) (p : PoS K ρ H W D z m')
    (k : ∀ x m1 ρ' H' v, S K ρ' env m1 σ H' → Ext ρ H ρ' H' → RVs K ρ' H' x v → f x m1 = some (z, m') → PoS K ρ' H' W D z m' → Q v H') : rdA K W d σ H Q := by
  unfold bindS at e
  split at e
  · cases e
  · rename_i x m1 h
    exact goA s h fun ρ' H' v s' E r => k x m1 ρ' H' v s' E r e (p.mono E)
  · rename_i c fs m1 h
    cases e
    exact exA s h fun ρ' H' dd s' E r => p ρ' H' s'.mem E σ s'.env dd r
theorem sbL {d : DA} {f : List Vl → Mem → Option (Fl × Mem)} {z : Fl} {Q : VK} {D : Ends}
    (s : S K ρ env m σ H) (e : bindS (d env m) env f = some (z, m')) (p : PoS K ρ H W D z m')
    (k : ∀ x m1 ρ' H' a vs, S K ρ' env m1 σ H' → Ext ρ H ρ' H' → Own ρ' H a → H' a = some (.lst vs) → vs.length ≤ sizeLine → RVs K ρ' H' x vs → f x m1 = some (z, m') → PoS K ρ' H' W D z m' → Q (.ref a) H') : rdL K W d σ H Q := by
  unfold bindS at e
  split at e
  · cases e
  · rename_i x m1 h
    exact goL s h fun ρ' H' a vs s' E h1 h3 h4 r => k x m1 ρ' H' a vs s' E h1 h3 h4 r e (p.mono E)
  · rename_i c fs m1 h
    cases e
    exact exL s h fun ρ' H' dd s' E r => p ρ' H' s'.mem E σ s'.env dd r
end
/-! ### expressions of all kinds -/
section
variable {X : Cx} {e a b c : Expr} {pos : Pos} {da db dc : DE} {dt du : DT} {es : List Expr} {d : DA}
theorem sa_nil : SA X [] (fun _ m => some (.ok [], m)) := ⟨fun W tk => impPA pa_nil fun σ H Q ⟨ρ, env, m, z, m', s, e, p⟩ => by
  cases e
  exact p ρ H s.mem .refl [] rfl⟩
def dCons (da : DE) (d : DA) : DA := fun env m => bindR (da env m) fun x m => bindR (d env m) fun xs m => some (.ok (x :: xs), m)
theorem sa_cons (ha : SE X e da) (hr : SA X es d) (hs : starEach (e :: es) X.env = (false, eval e X.env) :: starEach es X.env := by rfl) : SA X (e :: es) (dCons da d) := ⟨fun W tk =>
  impPA (pa_cons (ha.run W tk) (hr.run W tk) hs) fun σ H Q ⟨ρ, env, m, z, m', s, e, p⟩ =>
    bindE s e p fun x m1 ρ1 H1 v s1 E1 r1 e1 p1 => bindA s1 e1 p1 fun xs m2 ρ2 H2 vs s2 E2 r2 e2 p2 => by
      cases e2
      exact p2 ρ2 H2 s2.mem .refl _ ⟨v, vs, rfl, r1.mono E2, r2⟩⟩
/-- a written tuple -/
def dTup (d : DA) : DE := fun env m => bindR (d env m) fun xs m => if xs.length ≤ sizeLine then some (.ok (.tup xs), m) else none
theorem se_tup {k : Nat} (h : SA X es d) : SE X (.Tuple es k pos) (dTup d) := ⟨fun W tk =>
  impPE (pe_tup (h.run W tk)) fun σ H Q ⟨ρ, env, m, z, m', s, e, p⟩ => bindA s e p fun xs m1 ρ1 H1 vs s1 E1 r1 e1 p1 => by
    by_cases hz : xs.length ≤ sizeLine
    · rw [if_pos hz] at e1
      cases e1
      refine ⟨by rw [← r1.length]; exact hz, fun q hq => ?_⟩
      refine p1 ρ1 _ (s1.mem.laid hq) (ext_new hq) _ ⟨q, vs, rfl, .inl ⟨s1.mem.fresh hq, .inl upd_same⟩, r1.mono (ext_new hq)⟩
    · rw [if_neg hz] at e1
      cases e1⟩
/-- a written list, whose value is new -/
def dLst (d : DA) : DA := fun env m => bindR (d env m) fun xs m => if xs.length ≤ sizeLine then some (.ok xs, m) else none
theorem sl_lst (h : SA X es d) : SL X (.List es pos) (dLst d) := ⟨fun W tk =>
  impPE (pe_lst (h.run W tk)) fun σ H Q ⟨ρ, env, m, z, m', s, e, p⟩ => bindA s e p fun xs m1 ρ1 H1 vs s1 E1 r1 e1 p1 => by
    by_cases hz : xs.length ≤ sizeLine
    · rw [if_pos hz] at e1
      cases e1
      refine ⟨by rw [← r1.length]; exact hz, fun q hq => ?_⟩
      refine p1 ρ1 _ (s1.mem.laid hq) (ext_new hq) _ ⟨q, vs, rfl, ⟨s1.mem.fresh hq, s1.mem.freshz hq, E1.none hq⟩, upd_same, by rw [← r1.length]; exact hz, r1.mono (ext_new hq)⟩
    · rw [if_neg hz] at e1
      cases e1⟩
/-- a list as a value that nobody changes; as a cell -/
def dFrz (d : DA) : DE := fun env m => bindR (d env m) fun xs m => some (.ok (.lst xs), m)
def dNew (d : DA) : DE := fun env m => bindR (d env m) fun xs m => some (.ok (.obj m.length), m ++ [.lst xs])
theorem S.frz {K : PySem.W.Frag} {ρ : Lay} {env : Ev} {m : Mem} {σ : L2.St} {H : Hp} {p : Addr} {o : HO} (s : S K ρ env m σ H) (w : p ∉ ρ.c) (hp : H p = some o) : S K (ρ.frz p) env m σ H := ⟨s.mem.toFrz w hp, s.env.frz w⟩
theorem S.cel {K : PySem.W.Frag} {ρ : Lay} {env : Ev} {m : Mem} {σ : L2.St} {H : Hp} {p : Addr} {o : HO} {c : Cell} (s : S K ρ env m σ H) (w : p ∉ ρ.c) (wz : p ∉ ρ.z) (hp : H p = some o) (hk : cellK o = true) (hc : RC K ρ H p c) : S K (ρ.cel p) env (m ++ [c]) σ H :=
  ⟨s.mem.toCel w wz hp hk hc, s.env.cel wz hp hk⟩
theorem se_frz (h : SL X e d) : SE X e (dFrz d) := ⟨fun W tk => impPE (h.run W tk) fun σ H Q ⟨ρ, env, m, z, m', s, e, p⟩ => by
  unfold dFrz bindR at e
  split at e
  · cases e
  · rename_i xs m1 h0
    cases e
    refine goL s h0 fun ρ' H' a vs s' E w h3 h4 r => ?_
    exact p (ρ'.frz a) H' (s'.frz w.c h3).mem (E.toFrz w) _ ⟨a, vs, rfl, ⟨mem_frz.mpr (.inr rfl), w.c⟩, h3, r.frz w.c⟩
  · rename_i c fs m1 h0
    cases e
    exact exL s h0 fun ρ' H' dd s' E r => p ρ' H' s'.mem E dd r⟩
theorem se_new (h : SL X e d) : SE X e (dNew d) := ⟨fun W tk => impPE (h.run W tk) fun σ H Q ⟨ρ, env, m, z, m', s, e, p⟩ => by
  unfold dNew bindR at e
  split at e
  · cases e
  · rename_i xs m1 h0
    cases e
    refine goL s h0 fun ρ' H' a vs s' E w h3 h4 r => ?_
    exact p (ρ'.cel a) H' (s'.cel (c := .lst xs) w.c w.z h3 rfl ⟨vs, h3, r⟩).mem (E.toCel w) _ ⟨a, rfl, by
      show (ρ'.c ++ [a])[m1.length]? = some a
      rw [← s'.mem.len]
      simp⟩
  · rename_i c fs m1 h0
    cases e
    exact exL s h0 fun ρ' H' dd s' E r => p ρ' H' s'.mem E dd r⟩
end
end Z
namespace Z
open PySem PySem.Spec PyProof.Rows L2
variable [Kd]
/-! ### statements -/
section
variable {X : Cx} {st : Stmt} {rest body orelse : List Stmt} {e : Expr} {pos : Pos} {d d1 d2 dt du : DS} {de : DE} {c : DT} {da : DA}
def dNil : DS := fun env m => some (.nx env, m)
theorem sss_nil : SSs X [] dNil := ⟨fun W tk => impPSs pss_nil fun D σ H ⟨ρ, env, m, f, m', s, e, p⟩ => by
  cases e
  exact p ρ H s.mem .refl σ s.env⟩
def thenS (x : Option (Fl × Mem)) (k : Ev → Mem → Option (Fl × Mem)) : Option (Fl × Mem) := match x with
  | some (.nx env, m) => k env m
  | r => r
def dSeq (d1 d2 : DS) : DS := fun env m => thenS (d1 env m) d2
/-- a statement ahead of others -/
theorem rdS_seq {K : PySem.W.Frag} {W : WX} {D : Ends} {σ : L2.St} {H : Hp} (h : rdS K W (dSeq d1 d2) D σ H) : rdS K W d1 { D with nx := rdS K W d2 D } σ H := by
  obtain ⟨ρ, env, m, f, m', s, e, p⟩ := h
  cases h1 : d1 env m with
  | none =>
    unfold dSeq thenS at e
    rw [h1] at e
    cases e
  | some r =>
    obtain ⟨g, m1⟩ := r
    refine ⟨ρ, env, m, g, m1, s, h1, fun ρ' H' M E => ?_⟩
    unfold dSeq thenS at e
    rw [h1] at e
    cases g with
    | nx env1 => exact fun σ1 r1 => ⟨ρ', env1, m1, f, m', ⟨M, r1⟩, e, p.mono E⟩
    | rt v => cases e; exact fun v' r1 => p ρ' H' M E v' r1
    | bk env1 => cases e; exact fun σ1 r1 => p ρ' H' M E σ1 r1
    | ct env1 => cases e; exact fun σ1 r1 => p ρ' H' M E σ1 r1
    | ex k fs env1 => cases e; exact fun σ1 r1 dd x => p ρ' H' M E σ1 r1 dd x
theorem sss_cons (h1 : SS X st d1) (h2 : SSs X rest d2) : SSs X (st :: rest) (dSeq d1 d2) := ⟨fun W tk => impPSs (pss_cons (h1.run W tk) (h2.run W tk)) fun D σ H h => rdS_seq h⟩
theorem sss_one (h1 : SS X st d1) : SSs X [st] d1 := ⟨fun W tk => pss_one (h1.run W tk)⟩
theorem ss_pass : SS X (.Pass pos) dNil := ⟨fun W tk => impPS ps_pass fun D σ H ⟨ρ, env, m, f, m', s, e, p⟩ => by
  cases e
  exact p ρ H s.mem .refl σ s.env⟩
theorem ss_doc {x : Str} {j : Nat} {pos' : Pos} : SS X (.Expr (.Constant (.str x) j pos) pos') dNil := ⟨fun W tk => impPS ps_doc fun D σ H ⟨ρ, env, m, f, m', s, e, p⟩ => by
  cases e
  exact p ρ H s.mem .refl σ s.env⟩
def dBrk : DS := fun env m => some (.bk env, m)
def dCnt : DS := fun env m => some (.ct env, m)
theorem ss_break : SS X (.Break pos) dBrk := ⟨fun W tk => impPS ps_break fun D σ H ⟨ρ, env, m, f, m', s, e, p⟩ => by
  cases e
  exact p ρ H s.mem .refl σ s.env⟩
theorem ss_continue : SS X (.Continue pos) dCnt := ⟨fun W tk => impPS ps_continue fun D σ H ⟨ρ, env, m, f, m', s, e, p⟩ => by
  cases e
  exact p ρ H s.mem .refl σ s.env⟩
def dNever : DS := fun _ _ => none
theorem ss_never : SS X st dNever := ⟨fun W tk => impPS ps_never fun D σ H ⟨ρ, env, m, f, m', s, e, p⟩ => by cases e⟩
def dDrop (d : DE) : DS := fun env m => bindS (d env m) env fun _ m => some (.nx env, m)
theorem ss_expr (he : SE X e de) (hs : swapsWith e none pos.line X.env = pure false := by rfl) : SS X (.Expr e pos) (dDrop de) := ⟨fun W tk =>
  impPS (ps_expr (he.run W tk) hs) fun D σ H ⟨ρ, env, m, f, m', s, e, p⟩ => sbE s e p fun x m1 ρ1 H1 v s1 E1 r1 e1 p1 => by
    cases e1
    exact p1 ρ1 H1 s1.mem .refl σ s1.env⟩
def dRet (d : DE) : DS := fun env m => bindS (d env m) env fun x m => some (.rt x, m)
theorem ss_ret (he : SE X e de) : SS X (.Return (some e) pos) (dRet de) := ⟨fun W tk =>
  impPS (ps_ret (he.run W tk)) fun D σ H ⟨ρ, env, m, f, m', s, e, p⟩ => sbE s e p fun x m1 ρ1 H1 v s1 E1 r1 e1 p1 => by
    cases e1
    exact p1 ρ1 H1 s1.mem .refl v r1⟩
def dRetN : DS := fun _ m => some (.rt .non, m)
theorem ss_retN : SS X (.Return none pos) dRetN := ⟨fun W tk => impPS ps_retN fun D σ H ⟨ρ, env, m, f, m', s, e, p⟩ => by
  cases e
  exact p ρ H s.mem .refl .non rfl⟩
def dIfS (c : DT) (d1 d2 : DS) : DS := fun env m => bindS (c env m) env fun b m => if b = true then d1 env m else d2 env m
theorem ss_if {t : Expr} (hc : ST X t c) (h1 : SSs X body d1) (h2 : SSs X orelse d2) : SS X (.If t body orelse pos) (dIfS c d1 d2) := ⟨fun W tk =>
  impPS (ps_if (hc.run W tk) (h1.run W tk) (h2.run W tk)) fun D σ H ⟨ρ, env, m, f, m', s, e, p⟩ => sbT s e p fun b m1 ρ1 H1 s1 E1 e1 p1 => by
    cases b with
    | true =>
      rw [if_pos rfl] at e1
      show rdS X.K W d1 D σ H1
      exact ⟨ρ1, env, m1, f, m', s1, e1, p1⟩
    | false =>
      rw [if_neg (by decide)] at e1
      show rdS X.K W d2 D σ H1
      exact ⟨ρ1, env, m1, f, m', s1, e1, p1⟩⟩
def dAsg (i : Nat) (d : DE) : DS := fun env m => bindS (d env m) env fun x m => some (.nx (env.set i (some x)), m)
theorem ss_set {i : Nat} {x : Str} {pos' : Pos} (hN : X.N.Nodup) (hi : X.N[i]? = some x) (hx : Loc X.env.scope x) (he : SE X e de) (hs : swapsWith e (some (.Name x pos')) pos.line X.env = pure false := by rfl) (hf : X.fn x = true ∨ X.env.scope.names.lookup x = some .local := by first | exact .inl rfl | exact .inr rfl | assumption) :
    SS X (.Assign [.Name x pos'] e pos) (dAsg i de) := ⟨fun W tk =>
  impPS (ps_set hN hi hx (he.run W tk) hs hf) fun D σ H ⟨ρ, env, m, f, m', s, e, p⟩ => sbE s e p fun x m1 ρ1 H1 v s1 E1 r1 e1 p1 => by
    cases e1
    exact p1 ρ1 H1 s1.mem .refl _ (s1.env.set r1)⟩
/-! ### targets -/
/-- a target: the value, the slots, the memory; the slots and the memory behind it -/
abbrev DG := Vl → Ev → Mem → Option (Ev × Mem)
def rdG (K : PySem.W.Frag) (d : DG) : TG := fun v σ H Q => ∃ ρ env m x env' m', S K ρ env m σ H ∧ RV K ρ H x v ∧ d x env m = some (env', m') ∧ ∀ ρ' H' σ', S K ρ' env' m' σ' H' → Ext ρ H ρ' H' → Q σ' H'
structure SG (X : Cx) (t : Expr) (d : DG) : Prop where
  run : ∀ W, Takes X W → PG X t (rdG X.K d)
def rdGs (K : PySem.W.Frag) (d : List Vl → Ev → Mem → Option (Ev × Mem)) : TGs := fun vs σ H Q => ∃ ρ env m xs env' m', S K ρ env m σ H ∧ RVs K ρ H xs vs ∧ d xs env m = some (env', m') ∧ ∀ ρ' H' σ', S K ρ' env' m' σ' H' → Ext ρ H ρ' H' → Q σ' H'
structure SGs (X : Cx) (ts : List Expr) (d : List Vl → Ev → Mem → Option (Ev × Mem)) : Prop where
  run : ∀ W, Takes X W → PGs X ts (rdGs X.K d)
theorem impPG {t : Expr} {g g' : TG} (h : PG X t g) (q : ∀ v σ H Q, g' v σ H Q → g v σ H Q) : PG X t g' := ⟨fun pins s σ H v u Q I r x => h.run pins s σ H v u Q I r (q v σ H Q x)⟩
theorem impPGs {t : List Expr} {g g' : TGs} (h : PGs X t g) (q : ∀ v σ H Q, g' v σ H Q → g v σ H Q) : PGs X t g' := ⟨fun pins s σ H v u Q I r x => h.run pins s σ H v u Q I r (q v σ H Q x)⟩
def gVar (i : Nat) : DG := fun x env m => some (env.set i (some x), m)
theorem sg_name {i : Nat} {x : Str} (hN : X.N.Nodup) (hi : X.N[i]? = some x) (hx : Loc X.env.scope x) (hf : X.fn x = true ∨ X.env.scope.names.lookup x = some .local := by first | exact .inl rfl | exact .inr rfl | assumption) : SG X (.Name x pos) (gVar i) :=
  ⟨fun W tk => impPG (pg_name hN hi hx hf) fun v σ H Q ⟨ρ, env, m, x, env', m', s, r, e, p⟩ => by
    cases e
    exact p ρ H _ ⟨s.mem, s.env.set r⟩ .refl⟩
def gsNil : List Vl → Ev → Mem → Option (Ev × Mem) := fun xs env m => match xs with
  | [] => some (env, m)
  | _ => none
def gsCons (d : DG) (ds : List Vl → Ev → Mem → Option (Ev × Mem)) : List Vl → Ev → Mem → Option (Ev × Mem) := fun xs env m => match xs with
  | x :: r => (match d x env m with
    | some (env1, m1) => ds r env1 m1
    | none => none)
  | [] => none
theorem sgs_nil : SGs X [] gsNil := ⟨fun W tk => impPGs pgs_nil fun v σ H Q ⟨ρ, env, m, xs, env', m', s, r, e, p⟩ => by
  cases xs with
  | nil =>
    cases e
    exact ⟨r, p ρ H _ s .refl⟩
  | cons x xs => cases e⟩
theorem sgs_cons {t : Expr} {ts : List Expr} {dg : DG} {ds : List Vl → Ev → Mem → Option (Ev × Mem)} (h1 : SG X t dg) (h2 : SGs X ts ds)
    (hs : (assignEach (t :: ts) X.env).map (·.2) = assign t X.env :: (assignEach ts X.env).map (·.2) := by rfl) : SGs X (t :: ts) (gsCons dg ds) := ⟨fun W tk => impPGs (pgs_cons (h1.run W tk) (h2.run W tk) hs) fun v σ H Q ⟨ρ, env, m, xs, env', m', s, r, e, p⟩ => by
  cases xs with
  | nil => cases e
  | cons x xs =>
    obtain ⟨v, vs, rfl, r1, r2⟩ := r
    cases h : dg x env m with
    | none =>
      simp only [gsCons, h] at e
      cases e
    | some q =>
      obtain ⟨env1, m1⟩ := q
      refine ⟨v, vs, rfl, ρ, env, m, x, env1, m1, s, r1, h, fun ρ' H' σ' s' E => ⟨ρ', env1, m1, xs, env', m', s', r2.mono E, ?_, fun ρ2 H2 σ2 s2 E2 => p ρ2 H2 σ2 s2 (E.trans E2)⟩⟩
      simp only [gsCons, h] at e
      exact e⟩
/-- a, b = a tuple -/
def gTupD (ds : List Vl → Ev → Mem → Option (Ev × Mem)) : DG := fun x env m => match x with
  | .tup xs => ds xs env m
  | _ => none
def GsLen (ds : List Vl → Ev → Mem → Option (Ev × Mem)) (n : Nat) : Prop := ∀ xs env m r, ds xs env m = some r → xs.length = n
theorem gsl_nil : GsLen gsNil 0 := fun xs env m r h => by
  cases xs with
  | nil => rfl
  | cons x xs => cases h
theorem gsl_cons {dg : DG} {ds : List Vl → Ev → Mem → Option (Ev × Mem)} {n : Nat} (h : GsLen ds n) : GsLen (gsCons dg ds) (n + 1) := fun xs env m r e => by
  cases xs with
  | nil => cases e
  | cons x xs =>
    cases q : dg x env m with
    | none =>
      simp only [gsCons, q] at e
      cases e
    | some z =>
      simp only [gsCons, q] at e
      rw [List.length_cons, h _ _ _ _ e]
theorem sg_tup {es : List Expr} {k n : Nat} {ds : List Vl → Ev → Mem → Option (Ev × Mem)} (hc : X.calm = true) (h : SGs X es ds) (hl : GsLen ds n)
    (hn : (assignEach es X.env).length = n := by rfl) (hst : (assignEach es X.env).findIdx? (·.1) = none := by rfl) : SG X (.Tuple es k pos) (gTupD ds) := ⟨fun W tk => impPG (pg_tup hc (h.run W tk) hn hst) fun v σ H Q ⟨ρ, env, m, x, env', m', s, r, e, p⟩ => by
  unfold gTupD at e
  split at e
  · rename_i xs
    obtain ⟨a, vs, rfl, h2, h3⟩ := r
    exact ⟨a, vs, rfl, h2.sq, by rw [← h3.length]; exact hl _ _ _ _ e, ρ, env, m, xs, env', m', s, h3, e, p⟩
  · cases e⟩
/-- target = value -/
def dAsgG (g : DG) (d : DE) : DS := fun env m => bindS (d env m) env fun x m => match g x env m with
  | some (env', m') => some (.nx env', m')
  | none => none
theorem ss_asg {tg : Expr} {g : DG} (he : SE X e de) (hg : SG X tg g) (hs : swapsWithSole [tg] e pos.line X.env = pure false := by rfl) (hw : swappedStores [tg] e X.env = pure none := by rfl)
    (h1 : (assignEach [tg] X.env).map (·.2) = [assign tg X.env] := by rfl) : SS X (.Assign [tg] e pos) (dAsgG g de) := ⟨fun W tk =>
  impPS (ps_asg (he.run W tk) (hg.run W tk) hs hw h1) fun D σ H ⟨ρ, env, m, f, m', s, e, p⟩ => sbE s e p fun x m1 ρ1 H1 v s1 E1 r1 e1 p1 => by
    split at e1
    · rename_i env' m2 hg'
      cases e1
      exact ⟨ρ1, env, m1, x, env', _, s1, r1, hg', fun ρ' H' σ' s' E => p1 ρ' H' s'.mem E σ' s'.env⟩
    · cases e1⟩
/-- a, b = x, y -/
def dPar (i j : Nat) (d : DA) : DS := fun env m => bindS (d env m) env fun xs m => match xs with
  | [x, y] => some (.nx ((env.set i (some x)).set j (some y)), m)
  | _ => none
theorem ss_par {i j : Nat} {x y : Str} {a b : Expr} {px py pt : Pos} {kt k2 : Nat} {pt2 : Pos} (hc : X.calm = true) (hN : X.N.Nodup) (hi : X.N[i]? = some x) (hj : X.N[j]? = some y) (hij : i ≠ j)
    (hx : X.env.scope.names.lookup x = some .local) (hy : X.env.scope.names.lookup y = some .local) (ha : SA X [a, b] da)
    (hw : swappedStores [.Tuple [.Name x px, .Name y py] kt pt] (.Tuple [a, b] k2 pt2) X.env = pure (some [x, y]))
    (hs : swapsWithSole [.Tuple [.Name x px, .Name y py] kt pt] (.Tuple [a, b] k2 pt2) pos.line X.env = pure false := by rfl) :
    SS X (.Assign [.Tuple [.Name x px, .Name y py] kt pt] (.Tuple [a, b] k2 pt2) pos) (dPar i j da) := ⟨fun W tk =>
  impPS (ps_par hc hN hi hj hij hx hy (ha.run W tk) hw hs) fun D σ H ⟨ρ, env, m, f, m', s, e, p⟩ => sbA s e p fun xs m1 ρ1 H1 vs s1 E1 r1 e1 p1 => by
    split at e1
    · rename_i x y
      cases e1
      obtain ⟨v, vs, rfl, r2, w, ws, rfl, r3, r4⟩ := r1
      subst r4
      exact ⟨v, w, rfl, p1 ρ1 H1 s1.mem .refl _ ((s1.env.set r2).set r3)⟩
    · cases e1⟩
end
end Z
namespace Z
open PySem PySem.Spec PyProof.Rows L2
variable [Kd]
/-! ### operators by values -/
def orF (f g : F2) : F2 := fun x y m => match f x y m with
  | some r => some r
  | none => g x y m
section
variable {K : PySem.W.Frag} {f g : F2} {r r' : R2}
theorem sf_or (h : SF2 K f r) (h' : SF2 K g r') : SF2 K (orF f g) (fun x y H Q => r x y H Q ∨ r' x y H Q) := fun ρ m H x y v u z m' Q M a b e k => by
  unfold orF at e
  split at e
  · rename_i q hq
    cases e
    exact .inl (h ρ m H x y v u z m' Q M a b hq k)
  · exact .inr (h' ρ m H x y v u z m' Q M a b e k)
/-! lists that may be written; sequences that may be read -/
def lsD (m : Mem) : Vl → Option (List Vl)
  | .lst xs => some xs
  | .obj n => (match m[n]? with
    | some (.lst xs) => some xs
    | _ => none)
  | _ => none
theorem lsD_ok {ρ : Lay} {m : Mem} {H : Hp} {x : Vl} {v : V} {xs : List Vl} (M : RM K ρ m H) (a : RV K ρ H x v) (h : lsD m x = some xs) : ∃ p vs, v = .ref p ∧ H p = some (.lst vs) ∧ RVs K ρ H xs vs := by
  unfold lsD at h
  split at h
  · cases h
    obtain ⟨p, vs, rfl, _, h1, h2⟩ := a
    exact ⟨p, vs, rfl, h1, h2⟩
  · rename_i n
    split at h
    · rename_i ys hy
      cases h
      obtain ⟨p, rfl, hp⟩ := a
      obtain ⟨vs, h1, h2⟩ := M.at_ _ _ _ hy hp
      exact ⟨p, vs, rfl, h1, h2⟩
    · cases h
  · cases h
def seqD (m : Mem) : Vl → Option (List Vl)
  | .lst xs => some xs
  | .frl xs => some xs
  | .tup xs => some xs
  | .obj n => (match m[n]? with
    | some (.lst xs) => some xs
    | _ => none)
  | _ => none
theorem seqD_ok {ρ : Lay} {m : Mem} {H : Hp} {x : Vl} {v : V} {xs : List Vl} (M : RM K ρ m H) (a : RV K ρ H x v) (h : seqD m x = some xs) : ∃ p vs, v = .ref p ∧ (SqL K H p vs ∨ SqT K H p vs) ∧ RVs K ρ H xs vs := by
  unfold seqD at h
  split at h
  · cases h
    obtain ⟨p, vs, rfl, _, h1, h2⟩ := a
    exact ⟨p, vs, rfl, .inl (SqL.of h1), h2⟩
  · cases h
    obtain ⟨p, vs, rfl, h1, h2⟩ := a
    exact ⟨p, vs, rfl, .inl h1.sq, h2⟩
  · cases h
    obtain ⟨p, vs, rfl, h1, h2⟩ := a
    exact ⟨p, vs, rfl, .inr h1.sq, h2⟩
  · rename_i n
    split at h
    · rename_i ys hy
      cases h
      obtain ⟨p, rfl, hp⟩ := a
      obtain ⟨vs, h1, h2⟩ := M.at_ _ _ _ hy hp
      exact ⟨p, vs, rfl, .inl (SqL.of h1), h2⟩
    · cases h
  · cases h
def lisD (m : Mem) : Vl → Option (List Vl)
  | .tup _ => none
  | x => seqD m x
theorem lisD_ok {ρ : Lay} {m : Mem} {H : Hp} {x : Vl} {v : V} {xs : List Vl} (M : RM K ρ m H) (a : RV K ρ H x v) (h : lisD m x = some xs) : ∃ p vs, v = .ref p ∧ SqL K H p vs ∧ RVs K ρ H xs vs := by
  cases x with
  | lst ys =>
    cases h
    obtain ⟨p, vs, rfl, _, h1, h2⟩ := a
    exact ⟨p, vs, rfl, SqL.of h1, h2⟩
  | frl ys =>
    cases h
    obtain ⟨p, vs, rfl, h1, h2⟩ := a
    exact ⟨p, vs, rfl, h1.sq, h2⟩
  | obj n =>
    have h' : lsD m (.obj n) = some xs := h
    obtain ⟨p, vs, h1, h2, h3⟩ := lsD_ok M a h'
    exact ⟨p, vs, h1, SqL.of h2, h3⟩
  | _ => cases h
/-! ints -/
def intF (C : Int → Int → Bool) (g : Int → Int → Vl) : F2 := fun x y m => match x, y with
  | .int i, .int j => if C i j = true then some (g i j, m) else none
  | _, _ => none
theorem sf_int {C : Int → Int → Bool} {P : Int → Int → Prop} {g : Int → Int → Vl} {gv : Int → Int → V} (hC : ∀ i j, C i j = true → P i j) (hg : ∀ i j ρ H, RV K ρ H (g i j) (gv i j)) : SF2 K (intF C g) (rI P gv) := fun ρ m H x y v u z m' Q M a b e k => by
  unfold intF at e
  split at e
  · rename_i i j
    split at e
    · rename_i c
      cases e
      exact ⟨i, j, a, b, hC i j c, k ρ H _ M .refl (hg i j ρ H)⟩
    · cases e
  · cases e
theorem sf_int0 {g : Int → Int → Vl} {gv : Int → Int → V} (hg : ∀ i j ρ H, RV K ρ H (g i j) (gv i j)) : SF2 K (intF (fun _ _ => true) g) (rI0 gv) := fun ρ m H x y v u z m' Q M a b e k => by
  unfold intF at e
  split at e
  · rename_i i j
    rw [if_pos rfl] at e
    cases e
    exact ⟨i, j, a, b, k ρ H _ M .refl (hg i j ρ H)⟩
  · cases e
def T2 : Int → Int → Bool := fun _ _ => true
def addI : F2 := intF T2 fun i j => .int (i + j)
def subI : F2 := intF T2 fun i j => .int (i - j)
def mulC (i j : Int) : Bool := (decide (-(2 ^ 64) < i) && decide (i < 2 ^ 64)) || (decide (-(2 ^ 64) < j) && decide (j < 2 ^ 64))
def mulI : F2 := intF mulC fun i j => .int (i * j)
def divI : F2 := intF (fun _ j => decide (0 < j) && decide (j < 1073741824)) fun i j => .int (i / j)
def modI : F2 := intF (fun _ j => decide (0 < j)) fun i j => .int (i % j)
def powI : F2 := intF (fun i j => decide (0 ≤ j) && (decide (j ≤ 1000000) && decide (i.natAbs < 2 ^ 64))) fun i j => .int (i ^ j.toNat)
theorem sf_addI : SF2 K addI (rI0 fun i j => .int (i + j)) := sf_int0 fun _ _ _ _ => rfl
theorem sf_subI : SF2 K subI (rI0 fun i j => .int (i - j)) := sf_int0 fun _ _ _ _ => rfl
theorem sf_mulI : SF2 K mulI (rI CMul fun i j => .int (i * j)) := sf_int (fun i j h => by
  unfold mulC at h
  simp only [Bool.or_eq_true, Bool.and_eq_true, decide_eq_true_eq] at h
  exact h) fun _ _ _ _ => rfl
theorem sf_divI : SF2 K divI (rI CDiv fun i j => .int (i / j)) := sf_int (fun i j h => by
  simp only [Bool.and_eq_true, decide_eq_true_eq] at h
  exact h) fun _ _ _ _ => rfl
theorem sf_modI : SF2 K modI (rI (fun _ j => 0 < j) fun i j => .int (i % j)) := sf_int (fun i j h => by
  simp only [decide_eq_true_eq] at h
  exact h) fun _ _ _ _ => rfl
theorem sf_powI : SF2 K powI (rI CPow fun i j => .int (i ^ j.toNat)) := sf_int (fun i j h => by
  simp only [Bool.and_eq_true, decide_eq_true_eq] at h
  exact h) fun _ _ _ _ => rfl
def ltI : F2 := intF T2 fun i j => .bl (decide (i < j))
def leI : F2 := intF T2 fun i j => .bl (decide (i ≤ j))
def gtI : F2 := intF T2 fun i j => .bl (decide (j < i))
def geI : F2 := intF T2 fun i j => .bl (decide (j ≤ i))
theorem sf_ltI : SF2 K ltI (rI0 fun i j => .bl (decide (i < j))) := sf_int0 fun _ _ _ _ => rfl
theorem sf_leI : SF2 K leI (rI0 fun i j => .bl (decide (i ≤ j))) := sf_int0 fun _ _ _ _ => rfl
theorem sf_gtI : SF2 K gtI (rI0 fun i j => .bl (decide (j < i))) := sf_int0 fun _ _ _ _ => rfl
theorem sf_geI : SF2 K geI (rI0 fun i j => .bl (decide (j ≤ i))) := sf_int0 fun _ _ _ _ => rfl
/-! texts, lists, tuples -/
def addS : F2 := fun x y m => match x, y with
  | .str i, .str j => if i.length + j.length ≤ sizeLine then some (.str (i ++ j), m) else none
  | _, _ => none
theorem sf_addS : SF2 K addS (fun x y H Q => ∃ i j, x = .str i ∧ y = .str j ∧ i.length + j.length ≤ sizeLine ∧ Q (.str (i ++ j)) H) := fun ρ m H x y v u z m' Q M a b e k => by
  unfold addS at e
  split at e
  · rename_i i j
    split at e
    · rename_i c
      cases e
      exact ⟨i, j, a, b, c, k ρ H _ M .refl rfl⟩
    · cases e
  · cases e
theorem ext_frz {ρ : Lay} {H : Hp} {p : Addr} {o : HO} {m : Mem} (M : RM K ρ m H) (hp : H p = none) : Ext ρ H (ρ.frz p) (upd H p o) := (ext_new (o := o) hp).toFrz ⟨M.fresh hp, M.freshz hp, hp⟩
theorem rm_frz {ρ : Lay} {H : Hp} {p : Addr} {o : HO} {m : Mem} (M : RM K ρ m H) (hp : H p = none) : RM K (ρ.frz p) m (upd H p o) := (M.laid hp).toFrz (M.fresh hp) upd_same
/-- a new list that nobody changes -/
theorem new_lst {ρ : Lay} {H : Hp} {p : Addr} {m : Mem} {xs : List Vl} {vs : List V} (M : RM K ρ m H) (hp : H p = none) (r : RVs K ρ H xs vs) : RV K (ρ.frz p) (upd H p (.lst vs)) (.lst xs) (.ref p) :=
  ⟨p, vs, rfl, ⟨mem_frz.mpr (.inr rfl), M.fresh hp⟩, upd_same, r.mono (ext_frz M hp)⟩
theorem new_tup {ρ : Lay} {H : Hp} {p : Addr} {m : Mem} {xs : List Vl} {vs : List V} (M : RM K ρ m H) (hp : H p = none) (r : RVs K ρ H xs vs) : RV K ρ (upd H p (.tup vs)) (.tup xs) (.ref p) :=
  ⟨p, vs, rfl, .inl ⟨M.fresh hp, .inl upd_same⟩, r.mono (ext_new hp)⟩
def addL : F2 := fun x y m => match lsD m x, lsD m y with
  | some a, some b => if a.length + b.length ≤ sizeLine then some (.lst (a ++ b), m) else none
  | _, _ => none
theorem sf_addL : SF2 K addL rCat := fun ρ m H x y v u z m' Q M a b e k => by
  unfold addL at e
  split at e
  · rename_i xs ys hx hy
    split at e
    · rename_i c
      cases e
      obtain ⟨p, vs, rfl, h1, h2⟩ := lsD_ok M a hx
      obtain ⟨q, ws, rfl, h3, h4⟩ := lsD_ok M b hy
      exact ⟨p, q, vs, ws, rfl, rfl, h1, h3, by rw [← h2.length, ← h4.length]; exact c, fun n hn => k _ _ _ (rm_frz M hn) (ext_frz M hn) (new_lst M hn (h2.append h4))⟩
    · cases e
  · cases e
def addT : F2 := fun x y m => match x, y with
  | .tup a, .tup b => if (!a.isEmpty && decide (a.length + b.length ≤ sizeLine)) = true then some (.tup (a ++ b), m) else none
  | _, _ => none
theorem RVs.nil_iff {ρ : Lay} {H : Hp} {xs : List Vl} {vs : List V} (r : RVs K ρ H xs vs) : xs = [] ↔ vs = [] := by
  have := r.length
  constructor
  · intro h
    subst h
    exact List.length_eq_zero_iff.mp this.symm
  · intro h
    subst h
    exact List.length_eq_zero_iff.mp this
theorem sf_addT : SF2 K addT (rCatT K) := fun ρ m H x y v u z m' Q M a b e k => by
  unfold addT at e
  split at e
  · rename_i xs ys
    split at e
    · rename_i c
      cases e
      simp only [Bool.and_eq_true, Bool.not_eq_true', decide_eq_true_eq, List.isEmpty_eq_false_iff] at c
      obtain ⟨p, vs, rfl, h1, h2⟩ := a
      obtain ⟨q, ws, rfl, h3, h4⟩ := b
      refine ⟨p, q, vs, ws, rfl, rfl, h1.sq, h3.sq, fun hv => c.1 (h2.nil_iff.mpr hv), by rw [← h2.length, ← h4.length]; exact c.2, fun hw => ?_, fun hw n hn => k _ _ _ (M.laid hn) (ext_new hn) (new_tup M hn (h2.append h4))⟩
      have hy := h4.nil_iff.mpr hw
      subst hy
      refine k ρ H _ M .refl ⟨p, vs, rfl, h1, ?_⟩
      rw [List.append_nil]
      exact h2
    · cases e
  · cases e
def mulL : F2 := fun x y m => match lsD m x, y with
  | some a, .int j => if (decide (-(2 ^ 63) ≤ j) && (decide (j < 2 ^ 63) && decide (a.length * j.toNat ≤ sizeLine))) = true then some (.lst (List.replicate j.toNat a).flatten, m) else none
  | _, _ => none
theorem RVs.rep {ρ : Lay} {H : Hp} {xs : List Vl} {vs : List V} (h : RVs K ρ H xs vs) : ∀ k : Nat, RVs K ρ H (List.replicate k xs).flatten (List.replicate k vs).flatten
  | 0 => rfl
  | k + 1 => by
    rw [List.replicate_succ, List.replicate_succ, List.flatten_cons, List.flatten_cons]
    exact h.append (RVs.rep h k)
theorem sf_mulL : SF2 K mulL rRep := fun ρ m H x y v u z m' Q M a b e k => by
  unfold mulL at e
  split at e
  · rename_i xs j hx
    split at e
    · rename_i c
      cases e
      simp only [Bool.and_eq_true, decide_eq_true_eq] at c
      obtain ⟨p, vs, rfl, h1, h2⟩ := lsD_ok M a hx
      exact ⟨p, j, vs, rfl, b, h1, c.1, c.2.1, by rw [← h2.length]; exact c.2.2, fun n hn => k _ _ _ (rm_frz M hn) (ext_frz M hn) (new_lst M hn (h2.rep _))⟩
    · cases e
  · cases e
/-! data -/
mutual
def toD : Vl → Option PyData
  | .non => some .none
  | .bl b => some (.bool b)
  | .int i => some (.int i)
  | .str x => some (.str x)
  | .tup xs => (match toDs xs with
    | some ds => some (.tuple ds)
    | none => none)
  | .lst xs => (match toDs xs with
    | some ds => some (.list ds)
    | none => none)
  | .frl xs => (match toDs xs with
    | some ds => some (.list ds)
    | none => none)
  | _ => none
def toDs : List Vl → Option (List PyData)
  | [] => some []
  | x :: xs => (match toD x with
    | some d => (match toDs xs with
      | some ds => some (d :: ds)
      | none => none)
    | none => none)
end
mutual
theorem toD_ok {ρ : Lay} {H : Hp} : ∀ {x : Vl} {v : V} {d : PyData}, RV K ρ H x v → toD x = some d → Dp K H v d
  | .non, _, _, h, e => by
    cases e
    rw [show _ = V.non from h]
    exact .non
  | .bl b, _, _, h, e => by
    cases e
    rw [show _ = V.bl b from h]
    exact .bl b
  | .int b, _, _, h, e => by
    cases e
    rw [show _ = V.int b from h]
    exact .int b
  | .str b, _, _, h, e => by
    cases e
    rw [show _ = V.str b from h]
    exact .str b
  | .tup xs, _, _, ⟨a, vs, h1, h2, h3⟩, e => by
    subst h1
    unfold toD at e
    split at e
    · rename_i ds hd
      cases e
      exact .tup h2.sq (toDs_ok h3 hd)
    · cases e
  | .lst xs, _, _, ⟨a, vs, h1, _, h2, h3⟩, e => by
    subst h1
    unfold toD at e
    split at e
    · rename_i ds hd
      cases e
      exact .lst (SqL.of h2) (toDs_ok h3 hd)
    · cases e
  | .frl xs, _, _, ⟨a, vs, h1, h2, h3⟩, e => by
    subst h1
    unfold toD at e
    split at e
    · rename_i ds hd
      cases e
      exact .lst h2.sq (toDs_ok h3 hd)
    · cases e
  | .ty _, _, _, _, e => by cases e
  | .glo _, _, _, _, e => by cases e
  | .dic _, _, _, _, e => by cases e
  | .dit _, _, _, _, e => by cases e
  | .ins _ _, _, _, _, e => by cases e
  | .obj _, _, _, _, e => by cases e
  | .err _ _, _, _, _, e => by cases e
theorem toDs_ok {ρ : Lay} {H : Hp} : ∀ {xs : List Vl} {vs : List V} {ds : List PyData}, RVs K ρ H xs vs → toDs xs = some ds → DpAll K H vs ds
  | [], _, _, h, e => by
    cases e
    rw [show _ = [] from h]
    exact .nil
  | x :: xs, _, _, ⟨v, r, h1, h2, h3⟩, e => by
    subst h1
    unfold toDs at e
    split at e
    · rename_i d hd
      split at e
      · rename_i ds hds
        cases e
        exact .cons (toD_ok h2 hd) (toDs_ok h3 hds)
      · cases e
    · cases e
end
def toDm (m : Mem) : Vl → Option PyData
  | .obj n => (match m[n]? with
    | some (.lst xs) => (match toDs xs with
      | some ds => some (.list ds)
      | none => none)
    | _ => none)
  | x => toD x
theorem toDm_ok {ρ : Lay} {m : Mem} {H : Hp} {x : Vl} {v : V} {d : PyData} (M : RM K ρ m H) (h : RV K ρ H x v) (e : toDm m x = some d) : Dp K H v d := by
  unfold toDm at e
  split at e
  · rename_i n
    split at e
    · rename_i xs hx
      split at e
      · rename_i ds hd
        cases e
        obtain ⟨p, rfl, hp⟩ := h
        obtain ⟨vs, h1, h2⟩ := M.at_ _ _ _ hx hp
        exact .lst (SqL.of h1) (toDs_ok h2 hd)
      · cases e
    · cases e
  · exact toD_ok h e
def datF (g : PyData → PyData → Bool) : F2 := fun x y m => match toDm m x, toDm m y with
  | some d, some e => if (SeqAt.shaped d && SeqAt.shaped e) = true then some (.bl (g d e), m) else none
  | _, _ => none
def eqW : F2 := datF PyData.eqv
def neW : F2 := datF fun d e => !PyData.eqv d e
theorem sf_eqW : SF2 K eqW (rEqD K) := fun ρ m H x y v u z m' Q M a b e k => by
  unfold eqW datF at e
  split at e
  · rename_i d d' hd hd'
    split at e
    · rename_i c
      cases e
      rw [Bool.and_eq_true] at c
      exact ⟨d, d', toDm_ok M a hd, toDm_ok M b hd', c.1, c.2, k ρ H _ M .refl rfl⟩
    · cases e
  · cases e
theorem sf_neW : SF2 K neW (rNeD K) := fun ρ m H x y v u z m' Q M a b e k => by
  unfold neW datF at e
  split at e
  · rename_i d d' hd hd'
    split at e
    · rename_i c
      cases e
      rw [Bool.and_eq_true] at c
      exact ⟨d, d', toDm_ok M a hd, toDm_ok M b hd', c.1, c.2, k ρ H _ M .refl rfl⟩
    · cases e
  · cases e
/-! in -/
def flatL : Vl → Option V
  | .non => some .non
  | .bl b => some (.bl b)
  | .int i => some (.int i)
  | .str x => some (.str x)
  | _ => none
theorem flatL_ok {ρ : Lay} {H : Hp} {x : Vl} {v w : V} (a : RV K ρ H x v) (h : flatL x = some w) : v = w ∧ flatV w = true := by
  cases x <;> first | (cases h; exact ⟨a, rfl⟩) | cases h
/-- == of flat values -/
def eqS (g : Bool → Bool) : F2 := fun x y m => match flatL x, flatL y with
  | some u, some w => if scal u w = true then some (.bl (g (decide (u = w))), m) else none
  | _, _ => none
theorem sf_eqS : SF2 K (eqS id) rEq := fun ρ m H x y v u z m' Q M a b e k => by
  unfold eqS at e
  split at e
  · rename_i p q hp hq
    split at e
    · rename_i c
      cases e
      obtain ⟨rfl, _⟩ := flatL_ok a hp
      obtain ⟨rfl, _⟩ := flatL_ok b hq
      exact ⟨c, k ρ H _ M .refl rfl⟩
    · cases e
  · cases e
theorem sf_neS : SF2 K (eqS not) rNe := fun ρ m H x y v u z m' Q M a b e k => by
  unfold eqS at e
  split at e
  · rename_i p q hp hq
    split at e
    · rename_i c
      cases e
      obtain ⟨rfl, _⟩ := flatL_ok a hp
      obtain ⟨rfl, _⟩ := flatL_ok b hq
      exact ⟨c, k ρ H _ M .refl rfl⟩
    · cases e
  · cases e
def eqF : F2 := orF (eqS id) eqW
def neF : F2 := orF (eqS not) neW
theorem sf_eq : SF2 K eqF (fun x y H Q => rEq x y H Q ∨ rEqD K x y H Q) := sf_or sf_eqS sf_eqW
theorem sf_ne : SF2 K neF (fun x y H Q => rNe x y H Q ∨ rNeD K x y H Q) := sf_or sf_neS sf_neW
def flatLs : List Vl → Option (List V)
  | [] => some []
  | x :: xs => (match flatL x with
    | some v => (match flatLs xs with
      | some vs => some (v :: vs)
      | none => none)
    | none => none)
theorem flatLs_ok {ρ : Lay} {H : Hp} : ∀ {xs : List Vl} {vs ws : List V}, RVs K ρ H xs vs → flatLs xs = some ws → vs = ws ∧ ws.all flatV = true
  | [], _, _, h, e => by
    cases e
    exact ⟨h, rfl⟩
  | x :: xs, _, _, ⟨v, r, h1, h2, h3⟩, e => by
    unfold flatLs at e
    split at e
    · rename_i w hw
      split at e
      · rename_i ws hws
        cases e
        obtain ⟨e1, f1⟩ := flatL_ok h2 hw
        obtain ⟨e2, f2⟩ := flatLs_ok h3 hws
        subst h1 e1 e2
        exact ⟨rfl, by rw [List.all_cons, f1, f2] <;> rfl⟩
      · cases e
    · cases e
def inS (neg : Bool) : F2 := fun x y m => match seqD m y with
  | some ys => (match flatL x, flatLs ys with
    | some v, some vs => some (.bl (if neg then !inV v vs else inV v vs), m)
    | _, _ => none)
  | none => none
theorem sf_in {neg : Bool} : SF2 K (inS neg) (rIn K neg) := fun ρ m H x y v u z m' Q M a b e k => by
  unfold inS at e
  split at e
  · rename_i ys hy
    split at e
    · rename_i w ws hw hws
      cases e
      obtain ⟨p, vs, rfl, h1, h2⟩ := seqD_ok M b hy
      obtain ⟨e1, f1⟩ := flatL_ok a hw
      obtain ⟨e2, f2⟩ := flatLs_ok h2 hws
      subst e1 e2
      exact ⟨p, _, rfl, h1, f1, f2, k ρ H _ M .refl rfl⟩
    · cases e
  · cases e
def inT (neg : Bool) : F2 := fun x y m => match x, y with
  | .str i, .str j => some (.bl (if neg then !(!(Builtin.Str.occurrences j i 0 j.length 1).isEmpty) else !(Builtin.Str.occurrences j i 0 j.length 1).isEmpty), m)
  | _, _ => none
theorem sf_inT : SF2 K (inT false) (fun x y H Q => ∃ i j, x = .str i ∧ y = .str j ∧ Q (.bl (!(Builtin.Str.occurrences j i 0 j.length 1).isEmpty)) H) := fun ρ m H x y v u z m' Q M a b e k => by
  unfold inT at e
  split at e
  · rename_i i j
    cases e
    exact ⟨i, j, a, b, k ρ H _ M .refl rfl⟩
  · cases e
theorem sf_notInT : SF2 K (inT true) (fun x y H Q => ∃ i j, x = .str i ∧ y = .str j ∧ Q (.bl (!(!(Builtin.Str.occurrences j i 0 j.length 1).isEmpty))) H) := fun ρ m H x y v u z m' Q M a b e k => by
  unfold inT at e
  split at e
  · rename_i i j
    cases e
    exact ⟨i, j, a, b, k ρ H _ M .refl rfl⟩
  · cases e
def inDl (neg : Bool) : F2 := fun x y m => match toDm m x, toDm m y with
  | some d, some (.list ds) => if (SeqAt.shaped d && SeqAt.shaped (.list ds)) = true then some (.bl (if neg then !ds.any fun z => PyData.eqv z d else ds.any fun z => PyData.eqv z d), m) else none
  | _, _ => none
theorem sf_inD : SF2 K (inDl false) (rInD K) := fun ρ m H x y v u z m' Q M a b e k => by
  unfold inDl at e
  split at e
  · rename_i d ds hd hd'
    split at e
    · rename_i c
      cases e
      rw [Bool.and_eq_true] at c
      exact ⟨d, ds, toDm_ok M a hd, toDm_ok M b hd', c.1, c.2, k ρ H _ M .refl rfl⟩
    · cases e
  · cases e
theorem sf_notInD : SF2 K (inDl true) (rNotInD K) := fun ρ m H x y v u z m' Q M a b e k => by
  unfold inDl at e
  split at e
  · rename_i d ds hd hd'
    split at e
    · rename_i c
      cases e
      rw [Bool.and_eq_true] at c
      exact ⟨d, ds, toDm_ok M a hd, toDm_ok M b hd', c.1, c.2, k ρ H _ M .refl rfl⟩
    · cases e
  · cases e
/-! is -/
def isN (neg : Bool) : F2 := fun x y m => match y with
  | .non => (match x with
    | .non => some (.bl (!neg), m)
    | _ => some (.bl neg, m))
  | _ => none
theorem RV.notNon {ρ : Lay} {H : Hp} {x : Vl} {v : V} (a : RV K ρ H x v) (h : match x with | .non => False | _ => True) : decide (v = V.non) = false := by
  cases x with
  | non => exact h.elim
  | err _ _ => obtain ⟨_, _, _, rfl, _⟩ := a; rfl
  | bl b => rw [show v = _ from a]; rfl
  | int b => rw [show v = _ from a]; rfl
  | str b => rw [show v = _ from a]; rfl
  | ty b => rw [show v = _ from a]; rfl
  | glo b => rw [show v = _ from a]; rfl
  | tup b => obtain ⟨_, _, rfl, _⟩ := a; rfl
  | lst b => obtain ⟨_, _, rfl, _⟩ := a; rfl
  | frl b => obtain ⟨_, _, rfl, _⟩ := a; rfl
  | dic b => obtain ⟨_, _, rfl, _⟩ := a; rfl
  | dit b => obtain ⟨_, _, rfl, _⟩ := a; rfl
  | ins b c => obtain ⟨_, _, _, rfl, _⟩ := a; rfl
  | obj b => obtain ⟨_, rfl, _⟩ := a; rfl
theorem sf_isN : SF2 K (isN false) (fun x y H Q => y = .non ∧ Q (.bl (decide (x = .non))) H) := fun ρ m H x y v u z m' Q M a b e k => by
  unfold isN at e
  split at e
  · refine ⟨b, ?_⟩
    split at e
    · cases e
      rw [show v = V.non from a]
      exact k ρ H _ M .refl rfl
    · rename_i h1
      cases e
      rw [a.notNon (by cases x <;> first | trivial | exact h1 rfl)]
      exact k ρ H _ M .refl rfl
  · cases e
theorem sf_notN : SF2 K (isN true) (fun x y H Q => y = .non ∧ Q (.bl (!decide (x = .non))) H) := fun ρ m H x y v u z m' Q M a b e k => by
  unfold isN at e
  split at e
  · refine ⟨b, ?_⟩
    split at e
    · cases e
      rw [show v = V.non from a]
      exact k ρ H _ M .refl rfl
    · rename_i h1
      cases e
      rw [a.notNon (by cases x <;> first | trivial | exact h1 rfl)]
      exact k ρ H _ M .refl rfl
  · cases e
def isB (neg : Bool) : F2 := fun x y m => match x, y with
  | .bl a, .bl b => some (.bl (if neg then !decide (a = b) else decide (a = b)), m)
  | _, _ => none
theorem sf_isB : SF2 K (isB false) rIsB := fun ρ m H x y v u z m' Q M a b e k => by
  unfold isB at e
  split at e
  · cases e
    exact ⟨_, _, a, b, k ρ H _ M .refl rfl⟩
  · cases e
theorem sf_notB : SF2 K (isB true) rNotB := fun ρ m H x y v u z m' Q M a b e k => by
  unfold isB at e
  split at e
  · cases e
    exact ⟨_, _, a, b, k ρ H _ M .refl rfl⟩
  · cases e
end
end Z
namespace Z
open PySem PySem.Spec PyProof.Rows L2
variable [Kd]
section
variable {X : Cx} {e a b c : Expr} {pos : Pos} {da db dc : DE} {dt du : DT} {es rest : List Expr} {d : DA} {f : F2} {r : R2}
/-! ### comparisons -/
theorem se_cmp {op : CmpOp} (ho : OpR X (compareOp op) r) (hf : SF2 X.K f r) (ha : SE X a da) (hb : SE X b db) (hm : behindInMarks op b = false) : SE X (.Compare a [op] [b] pos) (d2 f da db) := ⟨fun W tk =>
  impPE (pe_cmpR ho (ha.run W tk) (hb.run W tk) hm) fun σ H Q ⟨ρ, env, m, z, m', s, e, p⟩ =>
    bindE s e p fun x m1 ρ1 H1 v s1 E1 r1 e1 p1 => bindE s1 e1 p1 fun y m2 ρ2 H2 u s2 E2 r2 e2 p2 => by
      obtain ⟨w, h1, rfl⟩ := okR_some e2
      exact hf ρ2 m2 H2 x y v u w m' Q s2.mem (r1.mono E2) r2 h1 fun ρ' H' u' M E r => p2 ρ' H' M E u' r⟩
/-- a value that is a bool -/
def asB : Vl → Option Bool
  | .bl b => some b
  | _ => none
def b2 (f : F2) (da db : DE) : DT := fun env m => bindR (da env m) fun x m => bindR (db env m) fun y m => match f x y m with
  | some (.bl k, m) => some (.ok k, m)
  | _ => none
theorem st_cmp {op : CmpOp} (ho : OpR X (compareOp op) r) (hf : SF2 X.K f r) (ha : SE X a da) (hb : SE X b db) (hm : behindInMarks op b = false) : ST X (.Compare a [op] [b] pos) (b2 f da db) := ⟨fun W tk =>
  impPT (pt_cmpR ho (ha.run W tk) (hb.run W tk) hm) fun σ H Q ⟨ρ, env, m, z, m', s, e, p⟩ =>
    bindE s e p fun x m1 ρ1 H1 v s1 E1 r1 e1 p1 => bindE s1 e1 p1 fun y m2 ρ2 H2 u s2 E2 r2 e2 p2 => by
      split at e2
      · rename_i k m3 h1
        cases e2
        exact hf ρ2 m2 H2 x y v u _ m' _ s2.mem (r1.mono E2) r2 h1 fun ρ' H' u' M E r => ⟨k, r, p2 ρ' H' M E k rfl⟩
      · cases e2⟩
/-! the operators by their kinds -/
def eqA : F2 := eqF
def addA : F2 := orF addI (orF addS (orF addL addT))
def mulA : F2 := orF mulI mulL
theorem se_add (ha : SE X a da) (hb : SE X b db) : SE X (.BinOp a .Add b pos) (d2 addA da db) := se_2 (OpR.or op_add (OpR.or op_add_str (OpR.or op_cat op_catT))) (sf_or sf_addI (sf_or sf_addS (sf_or sf_addL sf_addT))) ha hb
theorem se_sub (ha : SE X a da) (hb : SE X b db) : SE X (.BinOp a .Sub b pos) (d2 subI da db) := se_2 op_sub sf_subI ha hb
theorem se_mul (ha : SE X a da) (hb : SE X b db) : SE X (.BinOp a .Mult b pos) (d2 mulA da db) := se_2 (OpR.or op_mul op_rep) (sf_or sf_mulI sf_mulL) ha hb
theorem se_div (ha : SE X a da) (hb : SE X b db) : SE X (.BinOp a .FloorDiv b pos) (d2 divI da db) := se_2 op_fdiv sf_divI ha hb
theorem se_mod (ha : SE X a da) (hb : SE X b db) : SE X (.BinOp a .Mod b pos) (d2 modI da db) := se_2 op_mod sf_modI ha hb
theorem se_pow (ha : SE X a da) (hb : SE X b db) : SE X (.BinOp a .Pow b pos) (d2 powI da db) := se_2 op_pow sf_powI ha hb
def neg1 (da : DE) : DE := fun env m => bindR (da env m) fun x m => match x with
  | .int i => some (.ok (.int (-i)), m)
  | _ => none
theorem se_neg (ha : SE X a da) : SE X (.UnaryOp .USub a pos) (neg1 da) := ⟨fun W tk => impPE (pe_un un_neg (ha.run W tk)) fun σ H Q ⟨ρ, env, m, z, m', s, e, p⟩ => bindE s e p fun x m1 ρ1 H1 v s1 E1 r1 e1 p1 => by
    split at e1
    · rename_i i
      cases e1
      exact ⟨i, r1, p1 ρ1 H1 s1.mem .refl _ rfl⟩
    · cases e1⟩
theorem se_eq (hu : X.A.units + 64 < cLine) (ha : SE X a da) (hb : SE X b db) : SE X (.Compare a [.Eq] [b] pos) (d2 eqF da db) := se_cmp (OpR.or op_eq (op_eqD hu)) sf_eq ha hb (nomark _)
theorem se_ne (hu : X.A.units + 64 < cLine) (ha : SE X a da) (hb : SE X b db) : SE X (.Compare a [.NotEq] [b] pos) (d2 neF da db) := se_cmp (OpR.or op_ne (op_neD hu)) sf_ne ha hb (nomark _)
theorem st_eq (hu : X.A.units + 64 < cLine) (ha : SE X a da) (hb : SE X b db) : ST X (.Compare a [.Eq] [b] pos) (b2 eqF da db) := st_cmp (OpR.or op_eq (op_eqD hu)) sf_eq ha hb (nomark _)
theorem st_ne (hu : X.A.units + 64 < cLine) (ha : SE X a da) (hb : SE X b db) : ST X (.Compare a [.NotEq] [b] pos) (b2 neF da db) := st_cmp (OpR.or op_ne (op_neD hu)) sf_ne ha hb (nomark _)
theorem se_lt (ha : SE X a da) (hb : SE X b db) : SE X (.Compare a [.Lt] [b] pos) (d2 ltI da db) := se_cmp op_lt sf_ltI ha hb (nomark _)
theorem se_le (ha : SE X a da) (hb : SE X b db) : SE X (.Compare a [.LtE] [b] pos) (d2 leI da db) := se_cmp op_le sf_leI ha hb (nomark _)
theorem se_gt (ha : SE X a da) (hb : SE X b db) : SE X (.Compare a [.Gt] [b] pos) (d2 gtI da db) := se_cmp op_gt sf_gtI ha hb (nomark _)
theorem se_ge (ha : SE X a da) (hb : SE X b db) : SE X (.Compare a [.GtE] [b] pos) (d2 geI da db) := se_cmp op_ge sf_geI ha hb (nomark _)
theorem st_lt (ha : SE X a da) (hb : SE X b db) : ST X (.Compare a [.Lt] [b] pos) (b2 ltI da db) := st_cmp op_lt sf_ltI ha hb (nomark _)
theorem st_le (ha : SE X a da) (hb : SE X b db) : ST X (.Compare a [.LtE] [b] pos) (b2 leI da db) := st_cmp op_le sf_leI ha hb (nomark _)
theorem st_gt (ha : SE X a da) (hb : SE X b db) : ST X (.Compare a [.Gt] [b] pos) (b2 gtI da db) := st_cmp op_gt sf_gtI ha hb (nomark _)
theorem st_ge (ha : SE X a da) (hb : SE X b db) : ST X (.Compare a [.GtE] [b] pos) (b2 geI da db) := st_cmp op_ge sf_geI ha hb (nomark _)
def isA (neg : Bool) : F2 := orF (isN neg) (isB neg)
theorem se_is (ha : SE X a da) (hb : SE X b db) : SE X (.Compare a [.Is] [b] pos) (d2 (isA false) da db) := se_cmp (OpR.or op_isN op_isBl) (sf_or sf_isN sf_isB) ha hb (nomark _)
theorem se_isnot (ha : SE X a da) (hb : SE X b db) : SE X (.Compare a [.IsNot] [b] pos) (d2 (isA true) da db) := se_cmp (OpR.or op_notN op_notBl) (sf_or sf_notN sf_notB) ha hb (nomark _)
theorem st_is (ha : SE X a da) (hb : SE X b db) : ST X (.Compare a [.Is] [b] pos) (b2 (isA false) da db) := st_cmp (OpR.or op_isN op_isBl) (sf_or sf_isN sf_isB) ha hb (nomark _)
theorem st_isnot (ha : SE X a da) (hb : SE X b db) : ST X (.Compare a [.IsNot] [b] pos) (b2 (isA true) da db) := st_cmp (OpR.or op_notN op_notBl) (sf_or sf_notN sf_notB) ha hb (nomark _)
def inA (neg : Bool) : F2 := orF (inS neg) (orF (inT neg) (inDl neg))
theorem se_in (hu : X.A.units + 65 < cLine) (ha : SE X a da) (hb : SE X b db) (hm : behindInMarks .In b = false := by rfl) : SE X (.Compare a [.In] [b] pos) (d2 (inA false) da db) := se_cmp (OpR.or op_in_seq (OpR.or op_in_str (op_inD hu))) (sf_or sf_in (sf_or sf_inT sf_inD)) ha hb hm
theorem se_notin (hu : X.A.units + 65 < cLine) (ha : SE X a da) (hb : SE X b db) (hm : behindInMarks .NotIn b = false := by rfl) : SE X (.Compare a [.NotIn] [b] pos) (d2 (inA true) da db) := se_cmp (OpR.or op_notIn_seq (OpR.or op_notIn_str (op_notInD hu))) (sf_or sf_in (sf_or sf_notInT sf_notInD)) ha hb hm
theorem st_in (hu : X.A.units + 65 < cLine) (ha : SE X a da) (hb : SE X b db) (hm : behindInMarks .In b = false := by rfl) : ST X (.Compare a [.In] [b] pos) (b2 (inA false) da db) := st_cmp (OpR.or op_in_seq (OpR.or op_in_str (op_inD hu))) (sf_or sf_in (sf_or sf_inT sf_inD)) ha hb hm
theorem st_notin (hu : X.A.units + 65 < cLine) (ha : SE X a da) (hb : SE X b db) (hm : behindInMarks .NotIn b = false := by rfl) : ST X (.Compare a [.NotIn] [b] pos) (b2 (inA true) da db) := st_cmp (OpR.or op_notIn_seq (OpR.or op_notIn_str (op_notInD hu))) (sf_or sf_in (sf_or sf_notInT sf_notInD)) ha hb hm
/-! ### chains, tests -/
def dChain (f g : F2) (da db dc : DE) : DE := fun env m => bindR (da env m) fun x m => bindR (db env m) fun y m => match f x y m with
  | some (.bl true, m) => bindR (dc env m) fun z m => okR (g y z m)
  | some (.bl false, m) => some (.ok (.bl false), m)
  | _ => none
theorem se_chain {op op' : CmpOp} {g : F2} {r' : R2} (ho : OpR X (compareOp op) r) (ho' : OpR X (compareOp op') r') (hf : SF2 X.K f r) (hg : SF2 X.K g r') (ha : SE X a da) (hb : SE X b db) (hc : SE X c dc)
    (hm : lastMarks [op, op'] [b, c] = false := by with_unfolding_all rfl) : SE X (.Compare a [op, op'] [b, c] pos) (dChain f g da db dc) := ⟨fun W tk =>
  impPE (pe_chain ho ho' (ha.run W tk) (hb.run W tk) (hc.run W tk) hm) fun σ H Q ⟨ρ, env, m, z, m', s, e, p⟩ =>
    bindE s e p fun x m1 ρ1 H1 v s1 E1 r1 e1 p1 => bindE s1 e1 p1 fun y m2 ρ2 H2 u s2 E2 r2 e2 p2 => by
      split at e2
      · rename_i m3 h1
        refine hf ρ2 m2 H2 x y v u _ m3 _ s2.mem (r1.mono E2) r2 h1 fun ρ' H' u' M E r => ⟨true, r, ?_⟩
        rw [if_pos rfl]
        exact bindE (s2.to E M) e2 (p2.mono E) fun z m4 ρ4 H4 v4 s4 E4 r4 e4 p4 => by
          obtain ⟨w, h5, rfl⟩ := okR_some e4
          exact hg ρ4 m4 H4 y z u v4 w m' Q s4.mem (r2.mono (E.trans E4)) r4 h5 fun ρ' H' u' M E r => p4 ρ' H' M E u' r
      · rename_i m3 h1
        cases e2
        refine hf ρ2 m2 H2 x y v u _ _ _ s2.mem (r1.mono E2) r2 h1 fun ρ' H' u' M E r => ⟨false, r, ?_⟩
        rw [if_neg (by decide)]
        exact p2 ρ' H' M E _ rfl
      · cases e2⟩
/-- a value that is a bool, as a test -/
def tB' (da : DE) : DT := fun env m => bindR (da env m) fun x m => match x with
  | .bl k => some (.ok k, m)
  | _ => none
theorem st_val (h : SE X e da) (he : ∀ whole, isTrue e X.env whole = (do let v ← whole; standAt e.pos; holding [v] (truthy v)) := by intro _; rfl) : ST X e (tB' da) := ⟨fun W tk =>
  impPT (pt_val (h.run W tk) he) fun σ H Q ⟨ρ, env, m, z, m', s, e, p⟩ => bindE s e p fun x m1 ρ1 H1 v s1 E1 r1 e1 p1 => by
    split at e1
    · rename_i k
      cases e1
      exact ⟨k, r1, p1 ρ1 H1 s1.mem .refl k rfl⟩
    · cases e1⟩
def truD (m : Mem) : Vl → Option Bool
  | .non => some false
  | .bl b => some b
  | .int i => some (i != 0)
  | .str x => if x.length ≤ sizeLine then some ((x.length : Int) != 0) else none
  | .tup xs => some (!xs.isEmpty)
  | .lst xs => some (!xs.isEmpty)
  | .frl xs => some (!xs.isEmpty)
  | .obj n => (match m[n]? with
    | some (.lst xs) => some (!xs.isEmpty)
    | some (.dic xs) => some (!xs.isEmpty)
    | _ => none)
  | .dic xs => some (!xs.isEmpty)
  | _ => none
theorem RVs.emp {K : PySem.W.Frag} {ρ : Lay} {H : Hp} {xs : List Vl} {vs : List V} (r : RVs K ρ H xs vs) : vs.isEmpty = xs.isEmpty := by
  have := r.length
  cases xs <;> cases vs <;> first | rfl | simp at this
theorem RKs.emp {K : PySem.W.Frag} {ρ : Lay} {H : Hp} {xs : List (Key × Vl)} {vs : List (Key × V)} (r : RKs K ρ H xs vs) : vs.isEmpty = xs.isEmpty := by
  cases xs with
  | nil =>
    rw [show vs = [] from r]
    rfl
  | cons x xs =>
    obtain ⟨k, y⟩ := x
    obtain ⟨v, s, rfl, _⟩ := r
    rfl
theorem truD_ok {K : PySem.W.Frag} {ρ : Lay} {m : Mem} {H : Hp} {x : Vl} {v : V} {k : Bool} (M : RM K ρ m H) (a : RV K ρ H x v) (h : truD m x = some k) : TruV K v H k := by
  cases x with
  | non =>
    cases h
    rw [show v = _ from a]
    rfl
  | bl b =>
    cases h
    rw [show v = _ from a]
    rfl
  | int b =>
    cases h
    rw [show v = _ from a]
    rfl
  | str b =>
    rw [show v = _ from a]
    have h' : (if b.length ≤ sizeLine then some ((b.length : Int) != 0) else none) = some k := h
    split at h'
    · rename_i c
      cases h'
      exact ⟨c, rfl⟩
    · cases h'
  | tup b =>
    cases h
    obtain ⟨p, vs, rfl, h1, h2⟩ := a
    exact .inr (.inl ⟨vs, h1.sq, by rw [h2.emp]⟩)
  | lst b =>
    cases h
    obtain ⟨p, vs, rfl, _, h1, h2⟩ := a
    exact .inl ⟨vs, SqL.of h1, by rw [h2.emp]⟩
  | frl b =>
    cases h
    obtain ⟨p, vs, rfl, h1, h2⟩ := a
    exact .inl ⟨vs, h1.sq, by rw [h2.emp]⟩
  | dic b =>
    cases h
    obtain ⟨p, vs, rfl, _, h1, h2⟩ := a
    exact .inr (.inr ⟨vs, h1, by rw [h2.emp]⟩)
  | obj n =>
    obtain ⟨p, rfl, hp⟩ := a
    unfold truD at h
    simp only at h
    split at h
    · rename_i xs hx
      cases h
      obtain ⟨vs, h1, h2⟩ := M.at_ _ _ _ hx hp
      exact .inl ⟨vs, SqL.of h1, by rw [h2.emp]⟩
    · rename_i xs hx
      cases h
      obtain ⟨vs, h1, h2⟩ := M.at_ _ _ _ hx hp
      exact .inr (.inr ⟨vs, h1, by rw [h2.emp]⟩)
    · cases h
  | _ => cases h
def tTr (da : DE) : DT := fun env m => bindR (da env m) fun x m => match truD m x with
  | some k => some (.ok k, m)
  | none => none
theorem st_tru (h : SE X e da) (he : ∀ whole, isTrue e X.env whole = (do let v ← whole; standAt e.pos; holding [v] (truthy v)) := by intro _; rfl) : ST X e (tTr da) := ⟨fun W tk =>
  impPT (pt_truth (h.run W tk) he) fun σ H Q ⟨ρ, env, m, z, m', s, e, p⟩ => bindE s e p fun x m1 ρ1 H1 v s1 E1 r1 e1 p1 => by
    split at e1
    · rename_i k hk
      cases e1
      exact ⟨k, truD_ok s1.mem r1 hk, p1 ρ1 H1 s1.mem .refl k rfl⟩
    · cases e1⟩
def tAnd2 (t u : DT) : DT := fun env m => bindR (t env m) fun b m => if b = true then u env m else some (.ok false, m)
def tOr2 (t u : DT) : DT := fun env m => bindR (t env m) fun b m => if b = true then some (.ok true, m) else u env m
def tNot1 (t : DT) : DT := fun env m => bindR (t env m) fun b m => some (.ok (!b), m)
theorem st_w {t : DT} (h : SW X e t) : ST X e t := ⟨fun W tk => PW.pt (h.run W tk)⟩
theorem sw_and1 (ha : ST X a dt) : SW X (.BoolOp .And [a] pos) dt := ⟨fun W tk => pw_and1 (ha.run W tk)⟩
theorem sw_or1 (ha : ST X a dt) : SW X (.BoolOp .Or [a] pos) dt := ⟨fun W tk => pw_or1 (ha.run W tk)⟩
theorem sw_and (ha : ST X a dt) (hb : SW X (.BoolOp .And (b :: rest) pos) du) : SW X (.BoolOp .And (a :: b :: rest) pos) (tAnd2 dt du) := ⟨fun W tk =>
  impPW (pw_and (ha.run W tk) (hb.run W tk)) fun σ H Q ⟨ρ, env, m, z, m', s, e, p⟩ => bindT s e p fun k m1 ρ1 H1 s1 E1 e1 p1 => by
    cases k with
    | true => exact ⟨ρ1, env, m1, z, m', s1, e1, p1⟩
    | false =>
      cases e1
      exact p1 ρ1 H1 s1.mem .refl false rfl⟩
theorem sw_or (ha : ST X a dt) (hb : SW X (.BoolOp .Or (b :: rest) pos) du) : SW X (.BoolOp .Or (a :: b :: rest) pos) (tOr2 dt du) := ⟨fun W tk =>
  impPW (pw_or (ha.run W tk) (hb.run W tk)) fun σ H Q ⟨ρ, env, m, z, m', s, e, p⟩ => bindT s e p fun k m1 ρ1 H1 s1 E1 e1 p1 => by
    cases k with
    | false => exact ⟨ρ1, env, m1, z, m', s1, e1, p1⟩
    | true =>
      cases e1
      exact p1 ρ1 H1 s1.mem .refl true rfl⟩
theorem st_not (ha : ST X a dt) : ST X (.UnaryOp .Not a pos) (tNot1 dt) := ⟨fun W tk =>
  impPT (pt_not (ha.run W tk)) fun σ H Q ⟨ρ, env, m, z, m', s, e, p⟩ => bindT s e p fun k m1 ρ1 H1 s1 E1 e1 p1 => by
    cases e1
    exact p1 ρ1 H1 s1.mem .refl _ rfl⟩
/-! and, or, not as values, by truth -/
def dAndV (da db : DE) : DE := fun env m => bindR (da env m) fun x m => match truD m x with
  | some true => db env m
  | some false => some (.ok x, m)
  | none => none
def dOrV (da db : DE) : DE := fun env m => bindR (da env m) fun x m => match truD m x with
  | some true => some (.ok x, m)
  | some false => db env m
  | none => none
theorem se_one {op : BoolOp} (h : SE X a da) : SE X (.BoolOp op [a] pos) da := ⟨fun W tk => pe_one (h.run W tk)⟩
theorem se_and (ha : SE X a da) (hb : SE X (.BoolOp .And (b :: rest) pos) db) : SE X (.BoolOp .And (a :: b :: rest) pos) (dAndV da db) := ⟨fun W tk =>
  impPE (pe_andT (ha.run W tk) (hb.run W tk)) fun σ H Q ⟨ρ, env, m, z, m', s, e, p⟩ => bindE s e p fun x m1 ρ1 H1 v s1 E1 r1 e1 p1 => by
    split at e1
    · rename_i hk
      refine ⟨true, truD_ok s1.mem r1 hk, ?_⟩
      rw [if_pos rfl]
      exact ⟨ρ1, env, m1, z, m', s1, e1, p1⟩
    · rename_i hk
      cases e1
      refine ⟨false, truD_ok s1.mem r1 hk, ?_⟩
      rw [if_neg (by decide)]
      exact p1 ρ1 H1 s1.mem .refl v r1
    · cases e1⟩
theorem se_or (ha : SE X a da) (hb : SE X (.BoolOp .Or (b :: rest) pos) db) : SE X (.BoolOp .Or (a :: b :: rest) pos) (dOrV da db) := ⟨fun W tk =>
  impPE (pe_orT (ha.run W tk) (hb.run W tk)) fun σ H Q ⟨ρ, env, m, z, m', s, e, p⟩ => bindE s e p fun x m1 ρ1 H1 v s1 E1 r1 e1 p1 => by
    split at e1
    · rename_i hk
      cases e1
      refine ⟨true, truD_ok s1.mem r1 hk, ?_⟩
      rw [if_pos rfl]
      exact p1 ρ1 H1 s1.mem .refl v r1
    · rename_i hk
      refine ⟨false, truD_ok s1.mem r1 hk, ?_⟩
      rw [if_neg (by decide)]
      exact ⟨ρ1, env, m1, z, m', s1, e1, p1⟩
    · cases e1⟩
def dNotV (da : DE) : DE := fun env m => bindR (da env m) fun x m => match truD m x with
  | some k => some (.ok (.bl (!k)), m)
  | none => none
theorem se_not (ha : SE X a da) : SE X (.UnaryOp .Not a pos) (dNotV da) := ⟨fun W tk =>
  impPE (pe_notT (ha.run W tk)) fun σ H Q ⟨ρ, env, m, z, m', s, e, p⟩ => bindE s e p fun x m1 ρ1 H1 v s1 E1 r1 e1 p1 => by
    split at e1
    · rename_i k hk
      cases e1
      exact ⟨k, truD_ok s1.mem r1 hk, p1 ρ1 H1 s1.mem .refl _ rfl⟩
    · cases e1⟩
def dIf (t : DT) (da db : DE) : DE := fun env m => bindR (t env m) fun b m => if b = true then da env m else db env m
theorem se_if {t : Expr} (hc : ST X t dt) (ha : SE X a da) (hb : SE X b db) : SE X (.IfExp t a b pos) (dIf dt da db) := ⟨fun W tk =>
  impPE (pe_ifExp (hc.run W tk) (ha.run W tk) (hb.run W tk)) fun σ H Q ⟨ρ, env, m, z, m', s, e, p⟩ => bindT s e p fun k m1 ρ1 H1 s1 E1 e1 p1 => by
    cases k with
    | true => exact ⟨ρ1, env, m1, z, m', s1, e1, p1⟩
    | false => exact ⟨ρ1, env, m1, z, m', s1, e1, p1⟩⟩
/-! ### subscripts, slices -/
def ixT : F2 := fun x y m => match seqD m x, y with
  | some xs, .int i => (match atI xs i with
    | some v => some (v, m)
    | none => none)
  | _, _ => none
theorem RVs.atI {K : PySem.W.Frag} {ρ : Lay} {H : Hp} {xs : List Vl} {vs : List V} {i : Int} {x : Vl} (r : RVs K ρ H xs vs) (h : L2.atI xs i = some x) : ∃ v, L2.atI vs i = some v ∧ RV K ρ H x v := by
  unfold L2.atI at h ⊢
  rw [← r.length]
  cases q : ixN xs.length i with
  | none =>
    rw [q] at h
    cases h
  | some j =>
    rw [q] at h
    exact r.get h
def rIxZ (K : PySem.W.Frag) : R2 := fun x y H Q => rIxL K x y H Q ∨ rIxT K x y H Q
theorem sf_ix {K : PySem.W.Frag} : SF2 K ixT (rIxZ K) := fun ρ m H x y v u z m' Q M a b e k => by
  unfold ixT at e
  split at e
  · rename_i xs i hx
    split at e
    · rename_i w hw
      cases e
      obtain ⟨p, vs, rfl, h1, h2⟩ := seqD_ok M a hx
      obtain ⟨w', h3, h4⟩ := h2.atI hw
      rcases h1 with h1 | h1
      · exact .inl ⟨p, vs, i, w', rfl, b, h1, h3, k ρ H _ M .refl h4⟩
      · exact .inr ⟨p, vs, i, w', rfl, b, h1, h3, k ρ H _ M .refl h4⟩
    · cases e
  · cases e
def ixS : F2 := fun x y m => match x, y with
  | .str z, .int i => if z.length ≤ sizeLine then (match atI z.cps.toList i with
    | some c => some (.str ⟨#[c]⟩, m)
    | none => none) else none
  | _, _ => none
theorem sf_ixS {K : PySem.W.Frag} : SF2 K ixS rIxS := fun ρ m H x y v u z m' Q M a b e k => by
  unfold ixS at e
  split at e
  · rename_i t i
    split at e
    · rename_i hl
      split at e
      · rename_i c hc
        cases e
        exact ⟨t, i, c, a, b, hl, hc, k ρ H _ M .refl rfl⟩
      · cases e
    · cases e
  · cases e
def ixA : F2 := orF ixT ixS
theorem se_ix (ha : SE X a da) (hb : SE X b db) (hs : PlainIx b := by intro _ _; rfl) : SE X (.Subscript a b pos) (d2 ixA da db) := ⟨fun W tk =>
  impPE (pe_ix (IxR.or (IxR.or ix_list ix_tup) ix_str) (ha.run W tk) (hb.run W tk) hs) fun σ H Q ⟨ρ, env, m, z, m', s, e, p⟩ =>
    bindE s e p fun x m1 ρ1 H1 v s1 E1 r1 e1 p1 => bindE s1 e1 p1 fun y m2 ρ2 H2 u s2 E2 r2 e2 p2 => by
      obtain ⟨w, h1, rfl⟩ := okR_some e2
      exact sf_or sf_ix sf_ixS ρ2 m2 H2 x y v u w m' Q s2.mem (r1.mono E2) r2 h1 fun ρ' H' u' M E r => p2 ρ' H' M E u' r⟩
/-- a slice's end -/
abbrev DO := Ev → Mem → Option (R (Option Int) × Mem)
def rdO (K : PySem.W.Frag) (W : WX) (d : DO) : TO := fun σ H Q => ∃ ρ env m r m', S K ρ env m σ H ∧ d env m = some (r, m') ∧ Po K ρ H (fun _ _ (b c : Option Int) => b = c) (fun c dd H' => W c dd σ H') Q r m'
structure SO (X : Cx) (e : Option Expr) (d : DO) : Prop where
  run : ∀ W, Takes X W → PO X e (rdO X.K W d)
theorem impPO {e : Option Expr} {t t' : TO} (h : PO X e t) (q : ∀ σ H Q, t' σ H Q → t σ H Q) : PO X e t' := ⟨fun pins s σ H Q I x => h.run pins s σ H Q I (q σ H Q x)⟩
theorem so_none : SO X none (fun _ m => some (.ok none, m)) := ⟨fun W tk => impPO po_none fun σ H Q ⟨ρ, env, m, z, m', s, e, p⟩ => by
  cases e
  exact p ρ H s.mem .refl none rfl⟩
def dPart (da : DE) : DO := fun env m => bindR (da env m) fun x m => match x with
  | .int i => some (.ok (some i), m)
  | _ => none
theorem so_some (ha : SE X a da) : SO X (some a) (dPart da) := ⟨fun W tk => impPO (po_some (ha.run W tk)) fun σ H Q ⟨ρ, env, m, z, m', s, e, p⟩ => bindE s e p fun x m1 ρ1 H1 v s1 E1 r1 e1 p1 => by
  split at e1
  · rename_i i
    cases e1
    exact ⟨i, r1, p1 ρ1 H1 s1.mem .refl (some i) rfl⟩
  · cases e1⟩
theorem bindO {β γ : Type} {K : PySem.W.Frag} {W : WX} {ρ : Lay} {env : Ev} {m m' : Mem} {σ : L2.St} {H : Hp} {d : DO} {f : Option Int → Mem → Option (R β × Mem)} {z : R β} {Q : Option Int → Hp → Prop} {Rel : Lay → Hp → β → γ → Prop} {Qf : γ → Hp → Prop}
    (s : S K ρ env m σ H) (e : bindR (d env m) f = some (z, m')) (p : Po K ρ H Rel (fun c dd H' => W c dd σ H') Qf z m')
    (k : ∀ x m1 ρ' H', S K ρ' env m1 σ H' → Ext ρ H ρ' H' → f x m1 = some (z, m') → Po K ρ' H' Rel (fun c dd H' => W c dd σ H') Qf z m' → Q x H') : rdO K W d σ H Q := by
  unfold bindR at e
  split at e
  · cases e
  · rename_i x m1 h
    refine ⟨ρ, env, m, _, _, s, h, fun ρ' H' M E v r => ?_⟩
    cases r
    exact k x m1 ρ' H' (s.to E M) E e (p.mono E)
  · rename_i c fs m1 h
    cases e
    exact ⟨ρ, env, m, _, _, s, h, fun ρ' H' M E dd r => p ρ' H' M E dd r⟩
def cutZ (xs : List Vl) (lo hi : Option Int) : List Vl := (xs.drop (HT.sIx xs.length 0 lo)).take (HT.sIx xs.length xs.length hi - HT.sIx xs.length 0 lo)
theorem RVs.drop {K : PySem.W.Frag} {ρ : Lay} {H : Hp} : ∀ {xs : List Vl} {vs : List V} (n : Nat), RVs K ρ H xs vs → RVs K ρ H (xs.drop n) (vs.drop n)
  | _, _, 0, h => h
  | [], _, n + 1, h => by
    rw [show _ = [] from h]
    rfl
  | _ :: xs, _, n + 1, ⟨v, r, h1, _, h3⟩ => by
    subst h1
    exact RVs.drop n h3
theorem RVs.take {K : PySem.W.Frag} {ρ : Lay} {H : Hp} : ∀ {xs : List Vl} {vs : List V} (n : Nat), RVs K ρ H xs vs → RVs K ρ H (xs.take n) (vs.take n)
  | _, _, 0, _ => rfl
  | [], _, n + 1, h => by
    rw [show _ = [] from h]
    rfl
  | _ :: xs, _, n + 1, ⟨v, r, h1, h2, h3⟩ => by
    subst h1
    exact ⟨v, _, rfl, h2, RVs.take n h3⟩
theorem RVs.cut {K : PySem.W.Frag} {ρ : Lay} {H : Hp} {xs : List Vl} {vs : List V} {lo hi : Option Int} (h : RVs K ρ H xs vs) : RVs K ρ H (cutZ xs lo hi) (cutV vs lo hi) := by
  unfold cutZ cutV
  rw [h.length]
  exact (h.drop _).take _
def slD (x : Vl) (lo hi : Option Int) (m : Mem) : Option (Vl × Mem) := match x with
  | .tup xs => if (decide (HT.sIx xs.length 0 lo = 0) && decide (HT.sIx xs.length xs.length hi = xs.length)) = true then none else some (.tup (cutZ xs lo hi), m)
  | .str z => if z.length ≤ sizeLine then some (.str (cutS z lo hi), m) else none
  | x => (match lisD m x with
    | some xs => some (.lst (cutZ xs lo hi), m)
    | none => none)
theorem sl_ok {K : PySem.W.Frag} {ρ : Lay} {m : Mem} {H : Hp} {x : Vl} {v : V} {lo hi : Option Int} {z : Vl} {m' : Mem} {Q : VK} (M : RM K ρ m H) (a : RV K ρ H x v) (e : slD x lo hi m = some (z, m'))
    (k : ∀ ρ' H' w, RM K ρ' m' H' → Ext ρ H ρ' H' → RV K ρ' H' z w → Q w H') : rSlL K v lo hi H Q ∨ rSlT K v lo hi H Q ∨ rSlS v lo hi H Q := by
  unfold slD at e
  split at e
  · rename_i xs
    split at e
    · cases e
    · rename_i c
      cases e
      obtain ⟨p, vs, rfl, h1, h2⟩ := a
      refine .inr (.inl ⟨p, vs, rfl, h1.sq, ?_, fun n hn => k ρ _ _ (M.laid hn) (ext_new hn) (new_tup M hn h2.cut)⟩)
      rw [← h2.length]
      simp only [Bool.and_eq_true, decide_eq_true_eq] at c
      exact c
  · rename_i t
    split at e
    · rename_i c
      cases e
      exact .inr (.inr ⟨t, a, c, k ρ H _ M .refl rfl⟩)
    · cases e
  · split at e
    · rename_i xs hx
      cases e
      obtain ⟨p, vs, rfl, h1, h2⟩ := lisD_ok M a hx
      exact .inl ⟨p, vs, rfl, h1, fun n hn => k _ _ _ (rm_frz M hn) (ext_frz M hn) (new_lst M hn h2.cut)⟩
    · cases e
def dSl (da : DE) (lo hi : DO) : DE := fun env m => bindR (da env m) fun x m => bindR (lo env m) fun l m => bindR (hi env m) fun h m => okR (slD x l h m)
theorem se_slice {lo hi : Option Expr} {p2 : Pos} {dl dh : DO} (ha : SE X a da) (hl : SO X lo dl) (hh : SO X hi dh) : SE X (.Subscript a (.Slice lo hi none p2) pos) (dSl da dl dh) := ⟨fun W tk =>
  impPE (pe_slice (SlR.or sl_list (SlR.or sl_tup sl_str)) (ha.run W tk) (hl.run W tk) (hh.run W tk)) fun σ H Q ⟨ρ, env, m, z, m', s, e, p⟩ =>
    bindE s e p fun x m1 ρ1 H1 v s1 E1 r1 e1 p1 => bindO s1 e1 p1 fun l m2 ρ2 H2 s2 E2 e2 p2 => bindO s2 e2 p2 fun h m3 ρ3 H3 s3 E3 e3 p3 => by
      obtain ⟨w, h1, rfl⟩ := okR_some e3
      exact sl_ok s3.mem (r1.mono (E2.trans E3)) h1 fun ρ' H' u' M E r => p3 ρ' H' M E u' r⟩
end
end Z
namespace Z
open PySem PySem.Spec PyProof.Rows L2
variable [Kd]
/-! ### values that lean on the first k cells alone -/
mutual
def clo (k : Nat) : Vl → Bool
  | .tup xs => cloL k xs
  | .lst xs => cloL k xs
  | .frl xs => cloL k xs
  | .dic kvs => cloK k kvs
  | .dit kvs => cloT k kvs
  | .ins _ fs => cloF k fs
  | .obj n => decide (n < k)
  | .non => true
  | .bl _ => true
  | .int _ => true
  | .str _ => true
  | .ty _ => true
  | .glo _ => true
  | .err _ fs => cloF k fs
def cloL (k : Nat) : List Vl → Bool
  | [] => true
  | x :: xs => clo k x && cloL k xs
def cloK (k : Nat) : List (Key × Vl) → Bool
  | [] => true
  | (_, x) :: xs => clo k x && cloK k xs
def cloT (k : Nat) : List (List Key × Vl) → Bool
  | [] => true
  | (_, x) :: xs => clo k x && cloT k xs
def cloF (k : Nat) : List (Str × Vl) → Bool
  | [] => true
  | (_, x) :: xs => clo k x && cloF k xs
end
theorem and2 {a b : Bool} (h : (a && b) = true) : a = true ∧ b = true := Bool.and_eq_true_iff.mp h
section
variable {K : PySem.W.Frag} {ρ ρ1 : Lay} {H H1 : Hp}
mutual
theorem RV.clo {k : Nat} (hk : ρ.c.length ≤ k) : ∀ (x : Vl) {v : V}, RV K ρ H x v → clo k x = true
  | .non, _, _ => rfl
  | .bl _, _, _ => rfl
  | .int _, _, _ => rfl
  | .str _, _, _ => rfl
  | .ty _, _, _ => rfl
  | .glo _, _, _ => rfl
  | .tup xs, _, ⟨_, _, _, _, h⟩ => RVs.clo hk xs h
  | .lst xs, _, ⟨_, _, _, _, _, h⟩ => RVs.clo hk xs h
  | .frl xs, _, ⟨_, _, _, _, h⟩ => RVs.clo hk xs h
  | .dic xs, _, ⟨_, _, _, _, _, h⟩ => RKs.clo hk xs h
  | .dit xs, _, ⟨_, _, _, _, _, h⟩ => RTs.clo hk xs h
  | .ins c fs, _, ⟨_, _, _, _, _, _, h⟩ => RFs.clo hk fs h
  | .obj n, _, ⟨a, _, h2⟩ => decide_eq_true (Nat.lt_of_lt_of_le (List.getElem?_eq_some_iff.mp h2).1 hk)
  | .err _ fs, _, ⟨_, _, _, _, _, _, _, h⟩ => RFs.clo hk fs h
theorem RVs.clo {k : Nat} (hk : ρ.c.length ≤ k) : ∀ (xs : List Vl) {vs : List V}, RVs K ρ H xs vs → cloL k xs = true
  | [], _, _ => rfl
  | x :: xs, _, ⟨_, _, _, h2, h3⟩ => Bool.and_eq_true_iff.mpr ⟨RV.clo hk x h2, RVs.clo hk xs h3⟩
theorem RKs.clo {k : Nat} (hk : ρ.c.length ≤ k) : ∀ (xs : List (Key × Vl)) {vs : List (Key × V)}, RKs K ρ H xs vs → cloK k xs = true
  | [], _, _ => rfl
  | (_, x) :: xs, _, ⟨_, _, _, h2, h3⟩ => Bool.and_eq_true_iff.mpr ⟨RV.clo hk x h2, RKs.clo hk xs h3⟩
theorem RTs.clo {k : Nat} (hk : ρ.c.length ≤ k) : ∀ (xs : List (List Key × Vl)) {vs : List (List Key × V)}, RTs K ρ H xs vs → cloT k xs = true
  | [], _, _ => rfl
  | (_, x) :: xs, _, ⟨_, _, _, h2, h3⟩ => Bool.and_eq_true_iff.mpr ⟨RV.clo hk x h2, RTs.clo hk xs h3⟩
theorem RFs.clo {k : Nat} (hk : ρ.c.length ≤ k) : ∀ (xs : List (Str × Vl)) {vs : List (Str × V)}, RFs K ρ H xs vs → cloF k xs = true
  | [], _, _ => rfl
  | (_, x) :: xs, _, ⟨_, _, _, h2, h3⟩ => Bool.and_eq_true_iff.mpr ⟨RV.clo hk x h2, RFs.clo hk xs h3⟩
end
/-- the layout of the first k cells; the others are values from now on -/
def Lay.cut (ρ : Lay) (k : Nat) : Lay := ⟨ρ.c.take k, ρ.z ++ ρ.c.drop k⟩
theorem cut_out {k : Nat} {a : Addr} (n : a ∉ ρ.c) : a ∉ (ρ.cut k).c := fun q => n (List.mem_of_mem_take q)
theorem cut_z {k : Nat} {a : Addr} (n : a ∈ ρ.z ∧ a ∉ ρ.c) : a ∈ (ρ.cut k).z ∧ a ∉ (ρ.cut k).c := ⟨List.mem_append_left _ n.1, cut_out n.2⟩
mutual
theorem RV.cut {k : Nat} : ∀ (x : Vl) {v : V}, RV K ρ H x v → Z.clo k x = true → RV K (ρ.cut k) H x v
  | .non, _, h, _ => h
  | .bl _, _, h, _ => h
  | .int _, _, h, _ => h
  | .str _, _, h, _ => h
  | .ty _, _, h, _ => h
  | .glo _, _, h, _ => h
  | .tup xs, _, ⟨a, vs, h1, h2, h3⟩, c => ⟨a, vs, h1, h2.elim (fun h => .inl ⟨cut_out h.1, h.2⟩) .inr, RVs.cut' xs h3 c⟩
  | .lst xs, _, ⟨a, vs, h1, n, h2, h3⟩, c => ⟨a, vs, h1, cut_z n, h2, RVs.cut' xs h3 c⟩
  | .frl xs, _, ⟨a, vs, h1, h2, h3⟩, c => ⟨a, vs, h1, h2.elim (fun h => .inl ⟨cut_out h.1, h.2⟩) .inr, RVs.cut' xs h3 c⟩
  | .dic xs, _, ⟨a, vs, h1, n, h2, h3⟩, c => ⟨a, vs, h1, cut_z n, h2, RKs.cut xs h3 c⟩
  | .dit xs, _, ⟨a, vs, h1, n, h2, h3⟩, c => ⟨a, vs, h1, cut_z n, h2, RTs.cut xs h3 c⟩
  | .ins _ fs, _, ⟨a, dx, gs, h1, n, h2, h3⟩, c => ⟨a, dx, gs, h1, cut_z n, h2, RFs.cut fs h3 c⟩
  | .obj n, _, ⟨a, h1, h2⟩, c => ⟨a, h1, by
      show (ρ.c.take k)[n]? = some a
      rw [List.getElem?_take_of_lt (of_decide_eq_true c)]
      exact h2⟩
  | .err _ fs, _, ⟨a, d, gs, h1, n, h2, h3, h4⟩, c => ⟨a, d, gs, h1, cut_out n, h2, h3.elim (fun ⟨dd, q1, q2, q3⟩ => .inl ⟨dd, q1, cut_out q2, q3⟩) .inr, RFs.cut fs h4 c⟩
theorem RVs.cut' {k : Nat} : ∀ (xs : List Vl) {vs : List V}, RVs K ρ H xs vs → cloL k xs = true → RVs K (ρ.cut k) H xs vs
  | [], _, h, _ => h
  | x :: xs, _, ⟨v, r, h1, h2, h3⟩, c => ⟨v, r, h1, RV.cut x h2 (and2 c).1, RVs.cut' xs h3 (and2 c).2⟩
theorem RKs.cut {k : Nat} : ∀ (xs : List (Key × Vl)) {vs : List (Key × V)}, RKs K ρ H xs vs → cloK k xs = true → RKs K (ρ.cut k) H xs vs
  | [], _, h, _ => h
  | (_, x) :: xs, _, ⟨v, r, h1, h2, h3⟩, c => ⟨v, r, h1, RV.cut x h2 (and2 c).1, RKs.cut xs h3 (and2 c).2⟩
theorem RTs.cut {k : Nat} : ∀ (xs : List (List Key × Vl)) {vs : List (List Key × V)}, RTs K ρ H xs vs → cloT k xs = true → RTs K (ρ.cut k) H xs vs
  | [], _, h, _ => h
  | (_, x) :: xs, _, ⟨v, r, h1, h2, h3⟩, c => ⟨v, r, h1, RV.cut x h2 (and2 c).1, RTs.cut xs h3 (and2 c).2⟩
theorem RFs.cut {k : Nat} : ∀ (xs : List (Str × Vl)) {vs : List (Str × V)}, RFs K ρ H xs vs → cloF k xs = true → RFs K (ρ.cut k) H xs vs
  | [], _, h, _ => h
  | (_, x) :: xs, _, ⟨v, r, h1, h2, h3⟩, c => ⟨v, r, h1, RV.cut x h2 (and2 c).1, RFs.cut xs h3 (and2 c).2⟩
end
def cloC (k : Nat) : Cell → Bool
  | .lst xs => cloL k xs
  | .dic xs => cloK k xs
  | .dit xs => cloT k xs
  | .ins _ fs => cloF k fs
theorem RC.clo {k : Nat} {a : Addr} (hk : ρ.c.length ≤ k) : ∀ {c : Cell}, RC K ρ H a c → cloC k c = true
  | .lst xs, ⟨_, _, h⟩ => RVs.clo hk xs h
  | .dic xs, ⟨_, _, h⟩ => RKs.clo hk xs h
  | .dit xs, ⟨_, _, h⟩ => RTs.clo hk xs h
  | .ins _ xs, ⟨_, _, _, h⟩ => RFs.clo hk xs h
theorem RC.cut {k : Nat} {a : Addr} : ∀ {c : Cell}, RC K ρ H a c → cloC k c = true → RC K (ρ.cut k) H a c
  | .lst xs, ⟨vs, h1, h⟩, c => ⟨vs, h1, RVs.cut' xs h c⟩
  | .dic xs, ⟨vs, h1, h⟩, c => ⟨vs, h1, RKs.cut xs h c⟩
  | .dit xs, ⟨vs, h1, h⟩, c => ⟨vs, h1, RTs.cut xs h c⟩
  | .ins _ xs, ⟨dx, vs, h1, h⟩, c => ⟨dx, vs, h1, RFs.cut xs h c⟩
/-- the memory m1 without what lies behind the first cells -/
theorem RM.cut {m' ex : Mem} (M : RM K ρ (m' ++ ex) H) (hc : ∀ (n : Nat) (c : Cell), m'[n]? = Option.some c → cloC m'.length c = true) : RM K (ρ.cut m'.length) m' H := by
  refine ⟨M.nd.sublist (List.take_sublist _ _), ?_, fun n c a h1 h2 => ?_, fun a ha => ?_⟩
  · show (ρ.c.take m'.length).length = m'.length
    rw [List.length_take, M.len, List.length_append]
    omega
  · have hn : n < m'.length := (List.getElem?_eq_some_iff.mp h1).1
    have h2' : (ρ.c.take m'.length)[n]? = Option.some a := h2
    rw [List.getElem?_take_of_lt hn] at h2'
    exact (M.at_ n c a (by rw [List.getElem?_append_left hn]; exact h1) h2').cut (hc n c h1)
  · rcases List.mem_append.mp ha with q | q
    · obtain ⟨h1, h2⟩ := M.zt a q
      exact ⟨cut_out h1, h2⟩
    · refine ⟨fun z => ?_, M.some (List.mem_of_mem_drop q)⟩
      have nd := M.nd
      rw [← List.take_append_drop m'.length ρ.c, List.nodup_append] at nd
      exact nd.2.2 a z a q rfl
theorem Ext.cut {m m' ex : Mem} (E : Ext ρ H ρ1 H1) (M : RM K ρ m H) (M1 : RM K ρ1 (m' ++ ex) H1) (hl : m'.length = m.length) : Ext ρ H (ρ1.cut m'.length) H1 := by
  obtain ⟨t, ht⟩ := E.pre
  have hc : ρ1.c.take m'.length = ρ.c := by rw [← ht, hl, ← M.len]; simp
  refine ⟨by show ρ.c <+: ρ1.c.take m'.length; rw [hc]; exact List.prefix_refl _, fun a h => List.mem_append_left _ (E.zin a h), E.keep, E.stay, fun a h => ?_, fun a h => ?_⟩
  · have h' : a ∈ ρ1.c.take m'.length := h
    rw [hc] at h'
    exact .inl h'
  · rcases List.mem_append.mp h with q | q
    · exact E.oldz a q
    · have hn : a ∉ ρ.c := fun z => by
        have nd := M1.nd
        rw [← List.take_append_drop m'.length ρ1.c, List.nodup_append] at nd
        exact nd.2.2 a (by rw [hc]; exact z) a q rfl
      rcases E.oldc a (List.mem_of_mem_drop q) with z | z
      · exact absurd z hn
      · exact .inr z
end
/-- what a result may be told as, behind the first k cells' end: the new cells are values, or forgotten -/
inductive PkV (k : Nat) (ex : Mem) : Vl → Vl → Prop
  | same {x : Vl} (h : clo k x = true) : PkV k ex x x
  | lst {n : Nat} {xs : List Vl} (h : ex[n]? = some (.lst xs)) (c : cloL k xs = true) : PkV k ex (.obj (k + n)) (.lst xs)
  | dic {n : Nat} {xs : List (Key × Vl)} (h : ex[n]? = some (.dic xs)) (c : cloK k xs = true) : PkV k ex (.obj (k + n)) (.dic xs)
  | dit {n : Nat} {xs : List (List Key × Vl)} (h : ex[n]? = some (.dit xs)) (c : cloT k xs = true) : PkV k ex (.obj (k + n)) (.dit xs)
  | ins {n : Nat} {cl : Str} {xs : List (Str × Vl)} (h : ex[n]? = some (.ins cl xs)) (c : cloF k xs = true) : PkV k ex (.obj (k + n)) (.ins cl xs)
theorem PkV.ok {K : PySem.W.Frag} {ρ : Lay} {H : Hp} {m' ex : Mem} {x y : Vl} {v : V} (p : PkV m'.length ex x y) (M : RM K ρ (m' ++ ex) H) (r : RV K ρ H x v) : RV K (ρ.cut m'.length) H y v := by
  have key : ∀ {n : Nat} {c : Cell}, ex[n]? = some c → ∀ {v : V}, RV K ρ H (.obj (m'.length + n)) v → ∃ a, v = .ref a ∧ RC K ρ H a c ∧ a ∈ (ρ.cut m'.length).z ∧ a ∉ (ρ.cut m'.length).c := by
    intro n c h v r
    obtain ⟨a, rfl, h2⟩ := r
    have hd : a ∈ ρ.c.drop m'.length := List.mem_of_getElem? (i := n) (by rw [List.getElem?_drop]; exact h2)
    refine ⟨a, rfl, M.at_ _ c a (by rw [List.getElem?_append_right (by omega)]; simpa using h) h2, List.mem_append_right _ hd, fun z => ?_⟩
    have nd := M.nd
    rw [← List.take_append_drop m'.length ρ.c, List.nodup_append] at nd
    exact nd.2.2 a z a hd rfl
  cases p with
  | same h => exact r.cut x h
  | lst h c =>
    obtain ⟨a, rfl, ⟨vs, h1, h2⟩, n⟩ := key h r
    exact ⟨a, vs, rfl, n, h1, RVs.cut' _ h2 c⟩
  | dic h c =>
    obtain ⟨a, rfl, ⟨vs, h1, h2⟩, n⟩ := key h r
    exact ⟨a, vs, rfl, n, h1, RKs.cut _ h2 c⟩
  | dit h c =>
    obtain ⟨a, rfl, ⟨vs, h1, h2⟩, n⟩ := key h r
    exact ⟨a, vs, rfl, n, h1, RTs.cut _ h2 c⟩
  | ins h c =>
    obtain ⟨a, rfl, ⟨dx, vs, h1, h2⟩, n⟩ := key h r
    exact ⟨a, dx, vs, rfl, n, h1, RFs.cut _ h2 c⟩
def PkR (k : Nat) (ex : Mem) : R Vl → R Vl → Prop
  | .ok x, .ok y => PkV k ex x y
  | .ex c fs, .ex c' fs' => c = c' ∧ fs = fs' ∧ cloF k fs = true
  | _, _ => False
/-- .. of a memory m: m1 behind it, told as m' -/
structure Pk (m : Mem) (r : R Vl) (m1 : Mem) (r' : R Vl) (m' : Mem) : Prop where
  ex : ∃ ex, m1 = m' ++ ex ∧ PkR m'.length ex r r'
  len : m'.length = m.length
  old : ∀ (n : Nat) (c : Cell), m'[n]? = some c → m[n]? = some c ∨ cloC m'.length c = true
theorem Pk.po {K : PySem.W.Frag} {ρ : Lay} {m m1 m' : Mem} {H : Hp} {r r' : R Vl} {W : Value → Option Addr → Hp → Prop} {Q : VK} (p : Pk m r m1 r' m') (M : RM K ρ m H) (h : Po K ρ H (RV K) W Q r' m') : Po K ρ H (RV K) W Q r m1 := fun ρ1 H1 M1 E => by
  obtain ⟨⟨ex, rfl, q⟩, hl, old⟩ := p
  have hc : ∀ (n : Nat) (c : Cell), m'[n]? = some c → cloC m'.length c = true := fun n c hn => by
    rcases old n c hn with z | z
    · obtain ⟨a, ha⟩ := M.adr z
      exact (M.at_ n c a z ha).clo (by rw [M.len, hl]; exact Nat.le_refl _)
    · exact z
  have M2 := M1.cut hc
  have E2 := E.cut M M1 hl
  have h2 := h _ H1 M2 E2
  cases r with
  | ok x =>
    cases r' with
    | ok y => exact fun v rv => h2 v (q.ok M1 rv)
    | ex c fs => exact q.elim
  | ex c fs =>
    cases r' with
    | ok y => exact q.elim
    | ex c' fs' =>
      obtain ⟨rfl, rfl, qc⟩ := q
      refine fun dd x => h2 dd ?_
      cases dd with
      | none => exact x
      | some d =>
        obtain ⟨gs, x1, x2, x3⟩ := x
        exact ⟨gs, x1, cut_out x2, RFs.cut _ x3 qc⟩
theorem Pk.pure {m ex : Mem} {x y : Vl} (h : PkV m.length ex x y) : Pk m (.ok x) (m ++ ex) (.ok y) m := ⟨⟨ex, rfl, h⟩, rfl, fun n c e => .inl e⟩
theorem Pk.here {m : Mem} {r : R Vl} (h : match r with | .ok x => clo m.length x = true | .ex _ fs => cloF m.length fs = true) : Pk m r m r m := ⟨⟨[], by simp, by
  cases r with
  | ok x => exact .same h
  | ex c fs => exact ⟨rfl, rfl, h⟩⟩, rfl, fun n c e => .inl e⟩
/-- an expression told otherwise -/
theorem SE.pack {X : Cx} {e : Expr} {d d' : DE} (h : SE X e d) (q : ∀ env m r' m', d' env m = some (r', m') → ∃ r m1, d env m = some (r, m1) ∧ Pk m r m1 r' m') : SE X e d' := ⟨fun W tk => impPE (h.run W tk) fun σ H Q ⟨ρ, env, m, z, m', s, e, p⟩ => by
  obtain ⟨r, m1, h1, pk⟩ := q env m z m' e
  exact ⟨ρ, env, m, r, m1, s, h1, pk.po s.mem p⟩⟩
/-! ### defs -/
abbrev FD := List Vl → Mem → Option (R Vl × Mem)
/-! ### what a def promises, where no guard is under way -/
structure Room (k : Nat) (A : Around) : Prop extends L2.Room k A where
  gd : A.guards = some []
theorem make_guards {A : Around} {C : Addr} {us : List Value} {kw : List (Str × Value)} (h : A.guards = some []) : (A.under (.builtin "type.__call__" ⟨.ref C :: us, kw⟩)).guards = some [] := by
  show pushGuards (Code.builtin "type.__call__" ⟨.ref C :: us, kw⟩).guards A.guards = some []
  rw [h]
  rfl
theorem Room.mono {j k : Nat} {A : Around} (r : Room k A) (h : j ≤ k) : Room j A := ⟨r.toRoom.mono h, r.gd⟩
theorem Room.deeper {k : Nat} {A : Around} (r : Room (k + 1) A) (env : Env) : Room k (A.deeper env) := ⟨r.toRoom.deeper env, r.gd⟩
theorem Room.in1 {k : Nat} {A : Around} (r : Room (k + 1) A) : Room k A.in1 := ⟨r.toRoom.in1, r.gd⟩
theorem Room.make {k : Nat} {A : Around} (r : Room (k + 1) A) (C : Addr) (us : List Value) (kw : List (Str × Value)) : Room k (A.under (.builtin "type.__call__" ⟨.ref C :: us, kw⟩)) := ⟨r.toRoom.make C us kw, make_guards r.gd⟩
structure FnOk (P : Program) (w : World) (K : PySem.W.Frag) (mg : Str → Option Value) (base : Heap) (CX : CXT) (k : Nat) (f : Addr) (fd : FuncData) (ps : List Str) (sp : Sp) : Prop where
  len : ∀ vs H Q E, sp vs H Q E → vs.length = ps.length
  run : ∀ (A : Around) (outer : List Env) (s : Shared) (H : Hp) (args : Args) (us : List Value) (vs : List V) (Q : VK) (E : XK), Room k A → Env0 P w K mg base A outer s H → BindsTo s fd args (ps.zip us) → Vals vs us → sp vs H Q E →
    codeAny (model P w) A (.call (.ref f) args) (CR CX outer P w H s Q E) s
theorem FnOk.mono {P : Program} {w : World} {K : PySem.W.Frag} {mg : Str → Option Value} {base : Heap} {CX : CXT} {j k : Nat} {f : Addr} {fd : FuncData} {ps : List Str} {sp : Sp} (F : FnOk P w K mg base CX j f fd ps sp) (h : j ≤ k) : FnOk P w K mg base CX k f fd ps sp :=
  ⟨F.len, fun A outer s H args us vs Q E hr => F.run A outer s H args us vs Q E (hr.mono h)⟩
theorem FnOk.imp {P : Program} {w : World} {K : PySem.W.Frag} {mg : Str → Option Value} {base : Heap} {CX : CXT} {k : Nat} {f : Addr} {fd : FuncData} {ps : List Str} {sp sp' : Sp} (F : FnOk P w K mg base CX k f fd ps sp) (h : ∀ vs H Q E, sp' vs H Q E → sp vs H Q E) : FnOk P w K mg base CX k f fd ps sp' :=
  ⟨fun vs H Q E q => F.len vs H Q E (h _ _ _ _ q), fun A outer s H args us vs Q E hr he hb hv hs => F.run A outer s H args us vs Q E hr he hb hv (h _ _ _ _ hs)⟩
/-- a def by its body, entered where no guard is under way -/
theorem funD_ok {P : Program} {w : World} {K : PySem.W.Frag} {mg : Str → Option Value} {base : Heap} {x qual : Str} {params : Arguments} {body : List Stmt} {scope : Scope} {dvs : List V} {kws : List (Str × V)} {f : Addr} {fd : FuncData} {CX : CXT} {N ps : List Str} {k : Nat} {sp : Sp}
    (F : FunD K x qual params body scope dvs kws f fd) (S : FnScope N ps scope) (len : ∀ vs H Q E, sp vs H Q E → vs.length = ps.length)
    (hb : ∀ (cdv : Value) (A : Around) (outer : List Env) (s : Shared) (H : Hp) (vs : List V) (Q : VK) (E : XK), Room k (A.deeper (envOfC qual scope s.heap.objs.size f cdv)) → sp vs H Q E →
      ∃ t, PSs (cxOf CX P w K mg base N qual scope f cdv A outer s H E) body t ∧ t { nx := fun _ H' => Q .non H', rt := Q } (L2.start N vs) H) : FnOk P w K mg base CX (k + 1) f fd ps sp := by
  obtain ⟨oc, od, dV, kV, doc, pm, an, cdv, ct, osl, rfl, lk, hcd, _, _⟩ := F.ex
  refine ⟨len, fun A outer s H args us vs Q E room e0 bnd rel hsp => ?_⟩
  have old : s.heap.NoLimit ∧ K.In s.heap := ⟨e0.mod.nolimit.keeps fun b o e => (e0.bs b o e).1, e0.mod.kin.keeps fun b o e => (e0.bs b o e).1⟩
  have named : ∀ y ∈ ps.zip us, scope.names.lookup y.1 = some .local ∨ (scope.names.lookup y.1 = some .cell ∧ ((cellsFrom (s.heap.objs.size + 1) scope.names []).lookup y.1).isSome = true) := by
    intro y hy
    exact (S.par y.1 (List.of_mem_zip hy).1).imp id fun q => ⟨q, PySem.W.cellsFrom_some _ _ _ (.inl q)⟩
  refine codeAny_call_function room.depth (old.2 _ _ lk) rfl S.co S.gen rfl (PySem.W.codeRec_of old.2 hcd) (bnd _ _ _ _ (wpAny_newFunctionEnv_cells S.kind named ?_))
  rintro _ rfl s1 x
  obtain ⟨t, ht, hq⟩ := hb cdv A outer s H vs Q E (room.deeper _) hsp
  refine ⟨old.1.keeps x.toInCall.keep, codeAny_func (wpAny_mono (ht.run [] s1 _ H _ (inv_start S room.hd e0 (len _ _ _ _ hsp) rel x) hq) (fun fl s' hs => ?_) fun _ _ h => h)⟩
  match fl, hs with
  | .ret u, ⟨v, σ', H', J, rv, q⟩ => exact ⟨v, H', J.os, J.bare, J.base, J.hok, rv, q⟩
  | .next, ⟨σ', H', J, q⟩ => exact ⟨.non, H', J.os, J.bare, J.base, J.hok, rfl, q⟩
  | .brk, ⟨_, _, _, q⟩ => exact q.elim
  | .cont, ⟨_, _, _, q⟩ => exact q.elim
def spZ (K : PySem.W.Frag) (n : Nat) (g : FD) : Sp := fun vs H Q E => vs.length = n ∧ ∃ ρ m xs r m', RM K ρ m H ∧ RVs K ρ H xs vs ∧ g xs m = some (r, m') ∧ Po K ρ H (RV K) (fun c dd H' => E c dd H') Q r m'
theorem spZ_pack {K : PySem.W.Frag} {n : Nat} {g g' : FD} (q : ∀ xs m r' m', g' xs m = some (r', m') → ∃ r m1, g xs m = some (r, m1) ∧ Pk m r m1 r' m') (vs : List V) (H : Hp) (Q : VK) (E : XK) (h : spZ K n g' vs H Q E) : spZ K n g vs H Q E := by
  obtain ⟨hl, ρ, m, xs, r', m', M, rx, e, p⟩ := h
  obtain ⟨r, m1, h1, pk⟩ := q xs m r' m' e
  exact ⟨hl, ρ, m, xs, r, m1, M, rx, h1, pk.po M p⟩
theorem spZ_imp {K : PySem.W.Frag} {n : Nat} {g g' : FD} (q : ∀ xs m r, xs.length = n → g' xs m = some r → g xs m = some r) (vs : List V) (H : Hp) (Q : VK) (E : XK) (h : spZ K n g' vs H Q E) : spZ K n g vs H Q E := by
  obtain ⟨hl, ρ, m, xs, r', m', M, rx, e, p⟩ := h
  exact ⟨hl, ρ, m, xs, r', m', M, rx, q xs m _ (by rw [rx.length]; exact hl) e, p⟩
def startZ (n : Nat) (xs : List Vl) : Ev := xs.map some ++ List.replicate (n - xs.length) none
/-- a def by its body: n names -/
def bodyD (n : Nat) (d : DS) : FD := fun xs m => match d (startZ n xs) m with
  | some (.rt v, m') => some (.ok v, m')
  | some (.nx _, m') => some (.ok .non, m')
  | some (.ex c fs _, m') => some (.ex c fs, m')
  | _ => none
theorem re_start {K : PySem.W.Frag} {ρ : Lay} {H : Hp} {xs : List Vl} {vs : List V} {N : List Str} (r : RVs K ρ H xs vs) : RE K ρ H (startZ N.length xs) (L2.start N vs) := by
  have hl := r.length
  refine ⟨by unfold startZ L2.start; simp [hl], fun i x e => ?_⟩
  unfold startZ at e
  unfold L2.start
  by_cases hi : i < xs.length
  · rw [List.getElem?_append_left (by simpa using hi), List.getElem?_map] at e
    cases h : xs[i]? with
    | none =>
      rw [h] at e
      cases e
    | some y =>
      rw [h] at e
      cases e
      obtain ⟨v, h1, h2⟩ := r.get h
      refine ⟨v, ?_, h2⟩
      rw [List.getElem?_append_left (by simpa [← hl] using hi), List.getElem?_map, h1]
      rfl
  · rw [List.getElem?_append_right (by simpa using hi)] at e
    rw [List.getElem?_replicate] at e
    split at e <;> cases e
theorem body_ok {P : Program} {w : World} {K : PySem.W.Frag} {mg : Str → Option Value} {base : Heap} {x qual : Str} {params : Arguments} {body : List Stmt} {scope : Scope} {dvs : List V} {kws : List (Str × V)} {f : Addr} {fd : FuncData} {N ps : List Str} {k : Nat} {d : DS}
    (F : FunD K x qual params body scope dvs kws f fd) (S : FnScope N ps scope)
    (hb : ∀ (cdv : Value) (A : Around) (outer : List Env) (s : Shared) (H : Hp) (E : XK), Room k (A.deeper (envOfC qual scope s.heap.objs.size f cdv)) → SSs (cxOf (CXk P w) P w K mg base N qual scope f cdv A outer s H E) body d) :
    FnOk P w K mg base (CXk P w) (k + 1) f fd ps (spZ K ps.length (bodyD N.length d)) := by
  refine funD_ok F S (fun vs H Q E h => h.1) fun cdv A outer s H vs Q E hr h => ?_
  refine ⟨_, (hb cdv A outer s H E hr).run (fun cls dd _ H' => E cls dd H') (Z.takes_of rfl rfl rfl rfl), ?_⟩
  obtain ⟨hl, ρ, m, xs, r, m', M, rx, e, p⟩ := h
  unfold bodyD at e
  split at e
  · rename_i v m2 h1
    cases e
    exact ⟨ρ, _, m, _, _, ⟨M, re_start rx⟩, h1, fun ρ' H' M' E' v' rv => p ρ' H' M' E' v' rv⟩
  · rename_i env m2 h1
    cases e
    exact ⟨ρ, _, m, _, _, ⟨M, re_start rx⟩, h1, fun ρ' H' M' E' σ' rv => p ρ' H' M' E' .non rfl⟩
  · rename_i c fs env m2 h1
    cases e
    exact ⟨ρ, _, m, _, _, ⟨M, re_start rx⟩, h1, fun ρ' H' M' E' σ' rv dd x => p ρ' H' M' E' dd x⟩
  · cases e
/-- the def at f, called with n values and the keywords ks, is g of gz of these -/
structure Fz (P : Program) (w : World) (K : PySem.W.Frag) (mg : Str → Option Value) (base : Heap) (k : Nat) (f : Addr) (n : Nat) (ks : List Str) (gz : List Vl → List Vl → List Vl) (g : FD) : Prop where
  ex : ∃ fd ps gs gV, FnOk P w K mg base (CXk P w) k f fd ps (spZ K ps.length g) ∧ KBn K fd ps n ks gs gV ∧
    ∀ (ρ : Lay) (H : Hp) (xs : List Vl) (vs : List V) (ys : List Vl) (zs : List V), xs.length = n → ys.length = ks.length → RVs K ρ H xs vs → RVs K ρ H ys zs → (gV vs zs).length = ps.length ∧ RVs K ρ H (gz xs ys) (gV vs zs)
section
variable {X : Cx} {k n : Nat} {f : Addr} {ks : List Str} {gz : List Vl → List Vl → List Vl} {g : FD} {W : WX}
theorem Fz.imp {P : Program} {w : World} {K : PySem.W.Frag} {mg : Str → Option Value} {base : Heap} {g' : FD} (F : Fz P w K mg base k f n ks gz g) (q : ∀ xs m r' m', g' xs m = some (r', m') → ∃ r m1, g xs m = some (r, m1) ∧ Pk m r m1 r' m') : Fz P w K mg base k f n ks gz g' := by
  obtain ⟨fd, ps, gs, gV, h1, h2, h3⟩ := F.ex
  exact ⟨fd, ps, gs, gV, h1.imp fun vs H Q E h => spZ_pack q vs H Q E h, h2, h3⟩
theorem Fz.mono {P : Program} {w : World} {K : PySem.W.Frag} {mg : Str → Option Value} {base : Heap} {j : Nat} (F : Fz P w K mg base k f n ks gz g) (h : k ≤ j) : Fz P w K mg base j f n ks gz g := by
  obtain ⟨fd, ps, gs, gV, h1, h2, h3⟩ := F.ex
  exact ⟨fd, ps, gs, gV, h1.mono h, h2, h3⟩
theorem Fz.run (F : Fz X.prog X.w X.K X.mg X.base k f n ks gz g) (hr : Room k X.A) (tk : Takes X W) {pins : List (Addr × Obj)} {σ : L2.St} {H : Hp} {s : Shared} {Q : VK} {us ws : List Value} {vs zs : List V} {ρ : Lay} {m m' : Mem} {xs ys : List Vl} {r : R Vl}
    (I : Inv X pins σ H s) (a : Vals vs us) (b : Vals zs ws) (M : RM X.K ρ m H) (ra : RVs X.K ρ H xs vs) (rb : RVs X.K ρ H ys zs) (hn : xs.length = n) (hk : ys.length = ks.length) (e : g (gz xs ys) m = some (r, m'))
    (p : Po X.K ρ H (RV X.K) (fun c dd H' => W c dd σ H') Q r m') : wpAny (model X.prog X.w) X.A (call (.ref f) us (ks.zip ws)) (EP X pins σ Q) X.xe s := by
  obtain ⟨fd, ps, gs, gV, h1, h2, h3⟩ := F.ex
  obtain ⟨hl, rg⟩ := h3 ρ H xs vs ys zs hn hk ra rb
  have r2 := h2.rel a b
  refine wpAny_call (codeAny_mono (h1.run X.A X.stack s H ⟨us, ks.zip ws⟩ (gs us ws) (gV vs zs) Q (fun c dd H' => W c dd σ H') hr I.env0 (h2.to s us ws I.kIn (by rw [← a.length, ← ra.length]; exact hn) (by rw [← b.length, ← rb.length]; exact hk)) r2 ⟨hl, ρ, m, _, r, m', M, rg, e, p⟩) fun r s' hq => ?_)
  cases r with
  | error e => exact tk.call I (fun _ _ _ h => h) hq
  | ok fl =>
    cases fl with
    | ret u => exact I.after hq
    | next => exact False.elim hq
    | brk => exact False.elim hq
    | cont => exact False.elim hq
end
/-! ### calls by name -/
structure SK (X : Cx) (kws : List Keyword) (d : DA) : Prop where
  run : ∀ W, Takes X W → PK X kws (rdA X.K W d)
section
variable {X : Cx} {e : Expr} {es : List Expr} {kws : List Keyword} {pos p : Pos} {de : DE} {d dk : DA} {x : Str} {k n : Nat} {f : Addr} {ks : List Str} {gz : List Vl → List Vl → List Vl} {g : FD}
theorem impPK {t t' : TA} (h : PK X kws t) (q : ∀ σ H Q, t' σ H Q → t σ H Q) : PK X kws t' := ⟨fun p pins s σ H Q I x => h.run p pins s σ H Q I (q σ H Q x)⟩
theorem sk_nil : SK X [] (fun _ m => some (.ok [], m)) := ⟨fun W tk => impPK pk_nil fun σ H Q ⟨ρ, env, m, z, m', s, e, p⟩ => by
  cases e
  exact p ρ H s.mem .refl [] rfl⟩
theorem sk_cons {nm : Option Str} {kpos : Pos} (ha : SE X e de) (hr : SK X kws d) : SK X (⟨nm, e, kpos⟩ :: kws) (dCons de d) := ⟨fun W tk =>
  impPK (pk_cons (ha.run W tk) (hr.run W tk)) fun σ H Q ⟨ρ, env, m, z, m', s, e, p⟩ =>
    bindE s e p fun x m1 ρ1 H1 v s1 E1 r1 e1 p1 => bindA s1 e1 p1 fun xs m2 ρ2 H2 vs s2 E2 r2 e2 p2 => by
      cases e2
      exact p2 ρ2 H2 s2.mem .refl _ ⟨v, vs, rfl, r1.mono E2, r2⟩⟩
variable {gd : List Vl → List Vl → Mem → Option (R Vl × Mem)}
/-- a call of what lies at f: n values, keywords ks -/
def Runs (X : Cx) (f : Addr) (n : Nat) (ks : List Str) (gd : List Vl → List Vl → Mem → Option (R Vl × Mem)) : Prop :=
  ∀ {W : WX} (_ : Takes X W) {pins : List (Addr × Obj)} {σ : L2.St} {H : Hp} {s : Shared} {Q : VK} {us ws : List Value} {vs zs : List V} {ρ : Lay} {m m' : Mem} {xs ys : List Vl} {r : R Vl}
    (_ : Inv X pins σ H s) (_ : Vals vs us) (_ : Vals zs ws) (_ : RM X.K ρ m H) (_ : RVs X.K ρ H xs vs) (_ : RVs X.K ρ H ys zs) (_ : xs.length = n) (_ : ys.length = ks.length) (_ : gd xs ys m = some (r, m'))
    (_ : Po X.K ρ H (RV X.K) (fun c dd H' => W c dd σ H') Q r m'), wpAny (model X.prog X.w) X.A (call (.ref f) us (ks.zip ws)) (EP X pins σ Q) X.xe s
theorem Fz.runs (F : Fz X.prog X.w X.K X.mg X.base k f n ks gz g) (hr : Room k X.A) : Z.Runs X f n ks (fun xs ys => g (gz xs ys)) := fun tk => F.run hr tk
def dCall (n j : Nat) (gd : List Vl → List Vl → Mem → Option (R Vl × Mem)) (d dk : DA) : DE := fun env m => bindR (d env m) fun xs m => bindR (dk env m) fun ys m => if xs.length = n ∧ ys.length = j then gd xs ys m else none
def dNone : DA := fun _ m => some (.ok [], m)
theorem se_call0 (R : Z.Runs X f 0 [] gd) (hk : PySem.W.keepIn X.K (.ref f) = true) (hm : X.mg x = some (.ref f)) (hg : Gl X x) (hdb : (x == ("__debug__" : Str)) = false := by decide) :
    SE X (.Call (.Name x p) [] [] pos) (dCall 0 0 gd dNone dNone) := ⟨fun W tk => ⟨fun pins s σ H Q I h => by
  obtain ⟨ρ, env, m, z, m', st, ee, pp⟩ := h
  unfold dCall dNone bindR at ee
  simp only [List.length_nil, and_self, if_true] at ee
  refine wpAny_Call_Name_kw (ld_glob I hg hm ?_ hdb)
  exact PySem.W.callWith_K0 I.kIn hk (R tk (us := []) (ws := []) (vs := []) (zs := []) (xs := []) (ys := []) I .nil .nil st.mem (show RVs X.K ρ H [] [] from rfl) (show RVs X.K ρ H [] [] from rfl) rfl rfl ee pp)⟩⟩
theorem se_call (R : Z.Runs X f n [] gd) (hk : PySem.W.keepIn X.K (.ref f) = true) (hm : X.mg x = some (.ref f)) (hg : Gl X x) (ha : SA X (e :: es) d) (hdb : (x == ("__debug__" : Str)) = false := by decide)
    (he : starEach (e :: es) X.env = (false, eval e X.env) :: starEach es X.env := by rfl) (hpl : (backTo pos (starEach es X.env)).any (·.1) = false := by rfl) : SE X (.Call (.Name x p) (e :: es) [] pos) (dCall n 0 gd d dNone) := ⟨fun W tk => ⟨fun pins s σ H Q I h => by
  obtain ⟨ρ, env, m, z, m', st, ee, pp⟩ := h
  have h' : rdA X.K W d σ H (fun vs H1 => ∃ ρ1 m1 xs, RM X.K ρ1 m1 H1 ∧ RVs X.K ρ1 H1 xs vs ∧ xs.length = n ∧ gd xs [] m1 = some (z, m') ∧ Po X.K ρ1 H1 (RV X.K) (fun c dd H' => W c dd σ H') Q z m') :=
    bindA st ee pp fun xs m1 ρ1 H1 vs s1 E1 r1 e1 p1 => by
      unfold dNone bindR at e1
      simp only at e1
      split at e1
      · rename_i hn
        exact ⟨ρ1, m1, xs, s1.mem, r1, hn.1, e1, p1⟩
      · cases e1
  refine wpAny_Call_Name_kw (ld_glob I hg hm ?_ hdb)
  refine PySem.W.callWith_K (h₀ := X.base) I.ok.mod.kin hk (thn ((ha.run W tk).run pos pins s σ H _ I h') fun us s1 ⟨vs, H1, I1, r, q⟩ => ⟨I1.kIn, ?_⟩) he hpl
  obtain ⟨ρ1, m1, xs, M1, rx, hn, e1, p1⟩ := q
  exact R tk (ws := []) I1 r .nil M1 rx (show RVs X.K ρ1 H1 [] [] from rfl) hn rfl e1 p1⟩⟩
theorem se_callK0 (R : Z.Runs X f 0 ks gd) (hk : PySem.W.keepIn X.K (.ref f) = true) (hm : X.mg x = some (.ref f)) (hg : Gl X x) (hkw : SK X kws dk)
    (hall : (backToKw pos (keywordEach kws X.env)).all (·.1.isSome) = true := by rfl) (hks : (backToKw pos (keywordEach kws X.env)).filterMap (·.1) = ks := by rfl) (hdb : (x == ("__debug__" : Str)) = false := by decide)
    (hpl : ((backTo pos (starEach [] X.env)).any (·.1) || (backToKw pos (keywordEach kws X.env)).any (·.1.isNone)) = false := by rfl) : SE X (.Call (.Name x p) [] kws pos) (dCall 0 ks.length gd dNone dk) := ⟨fun W tk => ⟨fun pins s σ H Q I h => by
  obtain ⟨ρ, env, m, z, m', st, ee, pp⟩ := h
  have h' : rdA X.K W dk σ H (fun zs H2 => ∃ ρ1 m1 ys, RM X.K ρ1 m1 H2 ∧ RVs X.K ρ1 H2 ys zs ∧ ys.length = ks.length ∧ gd [] ys m1 = some (z, m') ∧ Po X.K ρ1 H2 (RV X.K) (fun c dd H' => W c dd σ H') Q z m') := by
    unfold dCall dNone at ee
    have ee' : (bindR (dk env m) fun ys m => if ([] : List Vl).length = 0 ∧ ys.length = ks.length then gd [] ys m else none) = some (z, m') := ee
    refine bindA st ee' pp fun ys m2 ρ2 H2 zs s2 E2 r2 e2 p2 => ?_
    split at e2
    · rename_i hn
      exact ⟨ρ2, m2, ys, s2.mem, r2, hn.2, e2, p2⟩
    · cases e2
  refine wpAny_Call_Name_kw (ld_glob I hg hm ?_ hdb)
  refine PySem.W.callWith_KW0 (h₀ := X.base) I.ok.mod.kin hk hall ?_ hpl
  refine thn ((hkw.run W tk).run pos pins s σ H _ I h') fun ws s2 ⟨zs, H2, I2, rz, q2⟩ => ⟨I2.kIn, ?_⟩
  rw [hks]
  obtain ⟨ρ1, m1, ys, M1, ry, hy, e1, p1⟩ := q2
  exact R tk (us := []) (vs := []) (xs := []) I2 .nil rz M1 (show RVs X.K ρ1 H2 [] [] from rfl) ry rfl hy e1 p1⟩⟩
theorem se_callK (R : Z.Runs X f n ks gd) (hk : PySem.W.keepIn X.K (.ref f) = true) (hm : X.mg x = some (.ref f)) (hg : Gl X x) (ha : SA X (e :: es) d) (hkw : SK X kws dk)
    (hall : (backToKw pos (keywordEach kws X.env)).all (·.1.isSome) = true := by rfl) (hks : (backToKw pos (keywordEach kws X.env)).filterMap (·.1) = ks := by rfl)
    (hdb : (x == ("__debug__" : Str)) = false := by decide) (he : starEach (e :: es) X.env = (false, eval e X.env) :: starEach es X.env := by rfl)
    (hpl : ((backTo pos (starEach (e :: es) X.env)).any (·.1) || (backToKw pos (keywordEach kws X.env)).any (·.1.isNone)) = false := by rfl) : SE X (.Call (.Name x p) (e :: es) kws pos) (dCall n ks.length gd d dk) := ⟨fun W tk => ⟨fun pins s σ H Q I h => by
  obtain ⟨ρ, env, m, z, m', st, ee, pp⟩ := h
  have h' : rdA X.K W d σ H (fun vs H1 => rdA X.K W dk σ H1 fun zs H2 => ∃ ρ1 m1 xs ys, RM X.K ρ1 m1 H2 ∧ RVs X.K ρ1 H2 xs vs ∧ RVs X.K ρ1 H2 ys zs ∧ xs.length = n ∧ ys.length = ks.length ∧ gd xs ys m1 = some (z, m') ∧ Po X.K ρ1 H2 (RV X.K) (fun c dd H' => W c dd σ H') Q z m') :=
    bindA st ee pp fun xs m1 ρ1 H1 vs s1 E1 r1 e1 p1 => bindA s1 e1 p1 fun ys m2 ρ2 H2 zs s2 E2 r2 e2 p2 => by
      split at e2
      · rename_i hn
        exact ⟨ρ2, m2, xs, ys, s2.mem, r1.mono E2, r2, hn.1, hn.2, e2, p2⟩
      · cases e2
  refine wpAny_Call_Name_kw (ld_glob I hg hm ?_ hdb)
  refine PySem.W.callWith_KW (h₀ := X.base) I.ok.mod.kin hk hall (thn ((ha.run W tk).run pos pins s σ H _ I h') fun us s1 ⟨vs, H1, I1, r, q⟩ => ?_) hpl he
  refine thn ((hkw.run W tk).run pos pins s1 σ H1 _ I1 q) fun ws s2 ⟨zs, H2, I2, rz, q2⟩ => ⟨I2.kIn, ?_⟩
  rw [hks]
  obtain ⟨ρ1, m1, xs, ys, M1, rx, ry, hn, hy, e1, p1⟩ := q2
  exact R tk I2 r rz M1 rx ry hn hy e1 p1⟩⟩
end
end Z
namespace Z
open PySem PySem.Spec PyProof.Rows L2
variable [Kd]
/-! ### instances -/
def insD (m : Mem) : Vl → Option (Str × List (Str × Vl))
  | .ins c fs => some (c, fs)
  | .obj n => (match m[n]? with
    | some (.ins c fs) => some (c, fs)
    | _ => none)
  | _ => none
theorem insD_ok {K : PySem.W.Frag} {ρ : Lay} {m : Mem} {H : Hp} {x : Vl} {v : V} {c : Str} {fs : List (Str × Vl)} (M : RM K ρ m H) (a : RV K ρ H x v) (h : insD m x = some (c, fs)) : ∃ p dx gs, v = .ref p ∧ H p = some (.ins (He.ga K c) dx gs) ∧ RFs K ρ H fs gs := by
  unfold insD at h
  split at h
  · cases h
    obtain ⟨p, dx, gs, rfl, _, h1, h2⟩ := a
    exact ⟨p, dx, gs, rfl, h1, h2⟩
  · rename_i n
    split at h
    · rename_i c' fs' hy
      cases h
      obtain ⟨p, rfl, hp⟩ := a
      obtain ⟨dx, gs, h1, h2⟩ := M.at_ _ _ _ hy hp
      exact ⟨p, dx, gs, rfl, h1, h2⟩
    · cases h
  · cases h
/-- what the classes cs say of the attribute f: no class of theirs has it -/
def ClsF (K : PySem.W.Frag) (cs : List Str) (f : Str) : Prop := ∀ c ∈ cs, Cls K (He.ga K c) ∧ NoAttr K (He.ga K c) f
section
variable {X : Cx} {e o value : Expr} {es : List Expr} {kws : List Keyword} {pos p apos pos' : Pos} {de dv : DE} {d dk : DA} {x c : Str} {k n : Nat} {f : Addr} {ks : List Str} {gz : List Vl → List Vl → List Vl} {g : FD} {cs : List Str} {fn mn : Str}
def dFld (cs : List Str) (fn : Str) (de : DE) : DE := fun env m => bindR (de env m) fun x m => match insD m x with
  | some (c, fs) => if cs.contains c = true then (match fs.lookup fn with
    | some v => some (.ok v, m)
    | none => none) else none
  | none => none
theorem se_fld (he : SE X e de) (hc : ClsF X.K cs fn) (hb : attributeBase e fn X.env (eval e X.env) = eval e X.env := by rfl) : SE X (.Attribute e fn pos) (dFld cs fn de) := ⟨fun W tk =>
  impPE (pe_fld (he.run W tk) hb) fun σ H Q ⟨ρ, env, m, z, m', s, e, p⟩ => bindE s e p fun x m1 ρ1 H1 v s1 E1 r1 e1 p1 => by
    split at e1
    · rename_i c fs hi
      split at e1
      · rename_i hcs
        split at e1
        · rename_i w hw
          cases e1
          obtain ⟨a, dx, gs, rfl, h1, h2⟩ := insD_ok s1.mem r1 hi
          obtain ⟨v, h3, h4⟩ := h2.get hw
          obtain ⟨k1, k2⟩ := hc c (by simpa using hcs)
          exact ⟨a, _, dx, gs, v, rfl, h1, k1, k2, h3, p1 ρ1 H1 s1.mem .refl v h4⟩
        · cases e1
      · cases e1
    · cases e1⟩
/-- o.f = e, o a cell -/
def sFldD (cs : List Str) (fn : Str) (dv de : DE) : DS := fun env m => bindS (dv env m) env fun y m => bindS (de env m) env fun x m => match x with
  | .obj n => (match m[n]? with
    | some (.ins c fs) => if (cs.contains c && decide (fs.length < 1000)) = true then some (.nx env, m.set n (.ins c (putL fn y fs))) else none
    | _ => none)
  | _ => none
theorem ss_fld (ho : SE X o de) (hv : SE X value dv) (hc : ClsF X.K cs fn) (hs : swapsWith value (some (.Attribute o fn pos')) pos.line X.env = pure false := by rfl) : SS X (.Assign [.Attribute o fn pos'] value pos) (sFldD cs fn dv de) := ⟨fun W tk =>
  impPS (ps_fld (ho.run W tk) (hv.run W tk) hs) fun D σ H ⟨ρ, env, m, f, m', s, e, p⟩ => sbE s e p fun y m1 ρ1 H1 v s1 E1 r1 e1 p1 => sbE s1 e1 p1 fun x m2 ρ2 H2 u s2 E2 r2 e2 p2 => by
    split at e2
    · rename_i n
      split at e2
      · rename_i c fs hm
        split at e2
        · rename_i hcs
          cases e2
          rw [Bool.and_eq_true, decide_eq_true_eq] at hcs
          obtain ⟨a, rfl, hp⟩ := r2
          obtain ⟨dx, gs, h1, h2⟩ := s2.mem.at_ _ _ _ hm hp
          obtain ⟨k1, k2⟩ := hc c (by simpa using hcs.1)
          have hex : Ext ρ2 H2 ρ2 (upd H2 a (.ins (He.ga X.K c) dx (putF fn v gs))) := ext_set (List.mem_of_getElem? hp)
          refine ⟨a, _, dx, gs, rfl, h1, k1, k2, by rw [← h2.length]; exact hcs.2, p2 ρ2 _ (s2.mem.put hp ⟨dx, _, upd_same, (h2.mono hex).put ((r1.mono E2).mono hex)⟩) hex σ (s2.env.mono hex)⟩
        · cases e2
      · cases e2
    · cases e2⟩
/-! ### C(..) -/
/-- what a new instance of c is made by: __init__ at f -/
def initD (c : Str) (gz : List Vl → List Vl → List Vl) (g : FD) (xs ys : List Vl) (m : Mem) : Option (R Vl × Mem) := match g (gz (.obj m.length :: xs) ys) (m ++ [.ins c []]) with
  | some (.ok .non, m') => some (.ok (.obj m.length), m')
  | some (.ex c fs, m') => some (.ex c fs, m')
  | _ => none
theorem Fz.make {W : WX} (M : Mk X.K (He.ga X.K c) f) (F : Fz X.prog X.w X.K X.mg X.base k f (n + 1) ks gz g) (hr : Room (k + 1) X.A) (tk : Takes X W) {pins : List (Addr × Obj)} {σ : L2.St} {H : Hp} {s : Shared} {Q : VK} {us ws : List Value} {vs zs : List V} {ρ : Lay} {m m' : Mem} {xs ys : List Vl} {r : R Vl}
    (I : Inv X pins σ H s) (a : Vals vs us) (b : Vals zs ws) (Mm : RM X.K ρ m H) (ra : RVs X.K ρ H xs vs) (rb : RVs X.K ρ H ys zs) (hn : xs.length = n) (hk : ys.length = ks.length) (e : initD c gz g xs ys m = some (r, m'))
    (p : Po X.K ρ H (RV X.K) (fun c dd H' => W c dd σ H') Q r m') : wpAny (model X.prog X.w) X.A (call (.ref (He.ga X.K c)) us (ks.zip ws)) (EP X pins σ Q) X.xe s := by
  obtain ⟨fd, ps, gs, gV, h1, h2, h3⟩ := F.ex
  have I2 := Inv.made (C := He.ga X.K c) I
  have f1 : H s.heap.objs.size = none := I.hok.fresh (Nat.le_refl _)
  have f2 : H (s.heap.objs.size + 1) = none := I.hok.fresh (Nat.le_succ _)
  have M1 := Mm.laid (o := .own (s.heap.objs.size + 1)) f1
  have ne1 : s.heap.objs.size + 1 ≠ s.heap.objs.size := Nat.succ_ne_self _
  have f3 : (upd H s.heap.objs.size (.own (s.heap.objs.size + 1))) (s.heap.objs.size + 1) = none := by rw [upd_ne ne1]; exact f2
  have M2 := M1.laid (o := .ins (He.ga X.K c) s.heap.objs.size []) f3
  have w1 := M1.fresh f3
  have w2 := M1.freshz f3
  have E0 : Ext ρ H ρ (upd (upd H s.heap.objs.size (.own (s.heap.objs.size + 1))) (s.heap.objs.size + 1) (.ins (He.ga X.K c) s.heap.objs.size [])) := (ext_new f1).trans (ext_new f3)
  have E3 := E0.toCel ⟨w1, w2, f2⟩
  have M3 := M2.toCel (c := .ins c []) w1 w2 upd_same rfl ⟨s.heap.objs.size, [], upd_same, rfl⟩
  have ro : RV X.K (ρ.cel (s.heap.objs.size + 1)) (upd (upd H s.heap.objs.size (.own (s.heap.objs.size + 1))) (s.heap.objs.size + 1) (.ins (He.ga X.K c) s.heap.objs.size [])) (.obj m.length) (.ref (s.heap.objs.size + 1)) := ⟨_, rfl, by
    show (ρ.c ++ [s.heap.objs.size + 1])[m.length]? = _
    rw [← Mm.len]
    simp⟩
  have rx : RVs X.K (ρ.cel (s.heap.objs.size + 1)) (upd (upd H s.heap.objs.size (.own (s.heap.objs.size + 1))) (s.heap.objs.size + 1) (.ins (He.ga X.K c) s.heap.objs.size [])) (.obj m.length :: xs) (.ref (s.heap.objs.size + 1) :: vs) := ⟨_, _, rfl, ro, ra.mono E3⟩
  have r1 : Vals (V.ref (s.heap.objs.size + 1) :: vs) (Value.ref (s.heap.objs.size + 1) :: us) := .cons rfl a
  obtain ⟨hl, rg⟩ := h3 _ _ _ _ ys zs (by rw [List.length_cons, hn]) hk rx (rb.mono E3)
  have r2 := h2.rel r1 b
  have hpost : ∃ r0, g (gz (.obj m.length :: xs) ys) (m ++ [.ins c []]) = some (r0, m') ∧ Po X.K (ρ.cel (s.heap.objs.size + 1)) (upd (upd H s.heap.objs.size (.own (s.heap.objs.size + 1))) (s.heap.objs.size + 1) (.ins (He.ga X.K c) s.heap.objs.size [])) (RV X.K) (fun c dd H' => W c dd σ H') (fun v H2 => v = .non ∧ Q (.ref (s.heap.objs.size + 1)) H2) r0 m' := by
    unfold initD at e
    split at e
    · rename_i m2 h4
      cases e
      refine ⟨_, h4, fun ρ' H' M' E' v rv => ⟨rv, p ρ' H' M' (E3.trans E') _ (ro.mono E')⟩⟩
    · rename_i c' fs m2 h4
      cases e
      exact ⟨_, h4, fun ρ' H' M' E' dd x => p ρ' H' M' (E3.trans E') dd x⟩
    · cases e
  obtain ⟨r0, hg, hp⟩ := hpost
  refine wpAny_call (make_map (f := f) I.kIn M.makes M.init (beq_iff_eq.mp M.fn) (codeAny_mono (h1.run _ X.stack _ _ ⟨Value.ref (s.heap.objs.size + 1) :: us, ks.zip ws⟩ (gs (Value.ref (s.heap.objs.size + 1) :: us) ws) _ _ (fun c dd H' => W c dd σ H') (hr.make _ us (ks.zip ws))
    (I2.env0.make _ us (ks.zip ws)) (h2.to _ (Value.ref (s.heap.objs.size + 1) :: us) ws I2.kIn (by rw [List.length_cons, ← a.length, ← ra.length, hn]) (by rw [← b.length, ← rb.length]; exact hk)) r2 ⟨hl, _, _, _, r0, m', M3, rg, hg, hp⟩) fun r s' hq' => ?_))
  cases r with
  | error e => exact tk.call I2 (fun _ _ _ h => h) hq'
  | ok fl =>
    cases fl with
    | ret u =>
      obtain ⟨v, H', I3, rv, ev, q3⟩ := I2.after hq'
      subst ev
      exact ⟨rv, ⟨V.ref (s.heap.objs.size + 1), H', I3, rfl, q3⟩⟩
    | next => exact False.elim hq'
    | brk => exact False.elim hq'
    | cont => exact False.elim hq'
theorem Fz.mruns (M : Mk X.K (He.ga X.K c) f) (F : Fz X.prog X.w X.K X.mg X.base k f (n + 1) ks gz g) (hr : Room (k + 1) X.A)   : Z.Runs X (He.ga X.K c) n ks (initD c gz g) := fun tk => F.make M hr tk
/-! ### methods -/
/-- o.m(..) of an instance of the class c -/
def dMeth (c mn : Str) (n j : Nat) (gz : List Vl → List Vl → List Vl) (g : FD) (de : DE) (d dk : DA) : DE := fun env m => bindR (de env m) fun x m => match insD m x with
  | some (c', fs) => if (decide (c' = c) && (fs.lookup mn).isNone) = true then bindR (d env m) fun xs m => bindR (dk env m) fun ys m => if xs.length = n ∧ ys.length = j then g (gz (x :: xs) ys) m else none else none
  | none => none
theorem se_meth {pl : Sem Bool} (he : SE X o de) (hc : Cls X.K (He.ga X.K c)) (hm : Meth X.K (He.ga X.K c) mn f) (F : Fz X.prog X.w X.K X.mg X.base k f (n + 1) [] gz g) (hr : Room k X.A) (ha : SA X (e :: es) d)
    (hst : starEach (e :: es) X.env = (false, eval e X.env) :: starEach es X.env := by rfl) (hpl : (backTo pos (starEach es X.env)).any (·.1) = false := by rfl)
    (ht : eval (.Call (.Attribute o mn apos) (e :: es) [] pos) X.env = (do
      let ov ← eval o X.env
      standAt apos.atName
      let (f, first) ← holding [ov] (getMethod ov mn pl)
      callWith pos f first (backTo pos (starEach (e :: es) X.env)) (backToKw pos (keywordEach [] X.env))) := by rfl) :
    SE X (.Call (.Attribute o mn apos) (e :: es) [] pos) (dMeth c mn n 0 gz g de d dNone) := ⟨fun W tk => ⟨fun pins s σ H Q I h => by
  obtain ⟨ρ, env, m, z, m', st, ee, pp⟩ := h
  have h' : rdE X.K W de σ H (fun v H1 => ∃ a dx gs, v = .ref a ∧ H1 a = some (.ins (He.ga X.K c) dx gs) ∧ gs.lookup mn = none ∧ rdA X.K W d σ H1 fun vs H2 => ∃ ρ1 m1 xs, RM X.K ρ1 m1 H2 ∧ RVs X.K ρ1 H2 xs (.ref a :: vs) ∧ xs.length = n + 1 ∧ g (gz xs []) m1 = some (z, m') ∧ Po X.K ρ1 H2 (RV X.K) (fun c dd H' => W c dd σ H') Q z m') :=
    bindE st ee pp fun x m1 ρ1 H1 v s1 E1 r1 e1 p1 => by
      split at e1
      · rename_i c' fs hi
        split at e1
        · rename_i hcc
          rw [Bool.and_eq_true, decide_eq_true_eq, Option.isNone_iff_eq_none] at hcc
          obtain ⟨rfl, hl⟩ := hcc
          obtain ⟨a, dx, gs, rfl, h1, h2⟩ := insD_ok s1.mem r1 hi
          refine ⟨a, dx, gs, rfl, h1, h2.none hl, bindA s1 e1 p1 fun xs m2 ρ2 H2 vs s2 E2 r2 e2 p2 => ?_⟩
          unfold dNone bindR at e2
          simp only at e2
          split at e2
          · rename_i hn
            exact ⟨ρ2, m2, x :: xs, s2.mem, ⟨_, _, rfl, r1.mono E2, r2⟩, by rw [List.length_cons, hn.1], e2, p2⟩
          · cases e2
        · cases e1
      · cases e1
  refine PySem.W.methodCall_KW (pl := pl) (thn ((he.run W tk).run pins s σ H _ I h') fun u s1 ⟨x, H1, I1, rx, a, dx, fs, ex, ea, l, q⟩ => ?_) ht
  subst ex
  obtain rfl : u = Value.ref a := rx
  refine getmeth_ok I1 ea hc hm l ?_
  refine PySem.W.callWith_K (first := [.ref a]) (h₀ := X.base) I.ok.mod.kin hm.kp (thn ((ha.run W tk).run pos pins s1 σ H1 _ I1 q) fun us s2 ⟨vs, H2, I2, r, q2⟩ => ⟨I2.kIn, ?_⟩) hst hpl
  obtain ⟨ρ1, m1, xs, M1, rx, hn, e1, p1⟩ := q2
  exact F.run hr tk (us := .ref a :: us) (vs := .ref a :: vs) (ws := []) I2 (.cons rfl r) .nil M1 rx (show RVs X.K ρ1 H2 [] [] from rfl) hn rfl e1 p1⟩⟩
theorem se_meth0 {pl : Sem Bool} (he : SE X o de) (hc : Cls X.K (He.ga X.K c)) (hm : Meth X.K (He.ga X.K c) mn f) (F : Fz X.prog X.w X.K X.mg X.base k f 1 [] gz g) (hr : Room k X.A)
    (ht : eval (.Call (.Attribute o mn apos) [] [] pos) X.env = (do
      let ov ← eval o X.env
      standAt apos.atName
      let (f, first) ← holding [ov] (getMethod ov mn pl)
      callWith pos f first (backTo pos (starEach [] X.env)) (backToKw pos (keywordEach [] X.env))) := by rfl) :
    SE X (.Call (.Attribute o mn apos) [] [] pos) (dMeth c mn 0 0 gz g de dNone dNone) := ⟨fun W tk => ⟨fun pins s σ H Q I h => by
  obtain ⟨ρ, env, m, z, m', st, ee, pp⟩ := h
  have h' : rdE X.K W de σ H (fun v H1 => ∃ a dx gs, v = .ref a ∧ H1 a = some (.ins (He.ga X.K c) dx gs) ∧ gs.lookup mn = none ∧ ∃ ρ1 m1 xs, RM X.K ρ1 m1 H1 ∧ RVs X.K ρ1 H1 xs [.ref a] ∧ xs.length = 1 ∧ g (gz xs []) m1 = some (z, m') ∧ Po X.K ρ1 H1 (RV X.K) (fun c dd H' => W c dd σ H') Q z m') :=
    bindE st ee pp fun x m1 ρ1 H1 v s1 E1 r1 e1 p1 => by
      split at e1
      · rename_i c' fs hi
        split at e1
        · rename_i hcc
          rw [Bool.and_eq_true, decide_eq_true_eq, Option.isNone_iff_eq_none] at hcc
          obtain ⟨rfl, hl⟩ := hcc
          obtain ⟨a, dx, gs, rfl, h1, h2⟩ := insD_ok s1.mem r1 hi
          unfold dNone bindR at e1
          simp only [List.length_nil, and_self, if_true] at e1
          exact ⟨a, dx, gs, rfl, h1, h2.none hl, ρ1, m1, [x], s1.mem, ⟨_, _, rfl, r1, rfl⟩, rfl, e1, p1⟩
        · cases e1
      · cases e1
  refine PySem.W.methodCall_KW (pl := pl) (thn ((he.run W tk).run pins s σ H _ I h') fun u s1 ⟨x, H1, I1, rx, a, dx, fs, ex, ea, l, q⟩ => ?_) ht
  subst ex
  obtain rfl : u = Value.ref a := rx
  refine getmeth_ok I1 ea hc hm l ?_
  obtain ⟨ρ1, m1, xs, M1, rx, hn, e1, p1⟩ := q
  exact PySem.W.callWith_K0 (first := [.ref a]) I1.kIn hm.kp (F.run hr tk (us := [.ref a]) (vs := [.ref a]) (ws := []) I1 (.cons rfl .nil) .nil M1 rx (show RVs X.K ρ1 H1 [] [] from rfl) hn rfl e1 p1)⟩⟩
theorem se_methK {pl : Sem Bool} (he : SE X o de) (hc : Cls X.K (He.ga X.K c)) (hm : Meth X.K (He.ga X.K c) mn f) (F : Fz X.prog X.w X.K X.mg X.base k f (n + 1) ks gz g) (hr : Room k X.A) (ha : SA X (e :: es) d) (hkw : SK X kws dk)
    (hall : (backToKw pos (keywordEach kws X.env)).all (·.1.isSome) = true := by rfl) (hks : (backToKw pos (keywordEach kws X.env)).filterMap (·.1) = ks := by rfl)
    (hst : starEach (e :: es) X.env = (false, eval e X.env) :: starEach es X.env := by rfl)
    (hpl : ((backTo pos (starEach (e :: es) X.env)).any (·.1) || (backToKw pos (keywordEach kws X.env)).any (·.1.isNone)) = false := by rfl)
    (ht : eval (.Call (.Attribute o mn apos) (e :: es) kws pos) X.env = (do
      let ov ← eval o X.env
      standAt apos.atName
      let (f, first) ← holding [ov] (getMethod ov mn pl)
      callWith pos f first (backTo pos (starEach (e :: es) X.env)) (backToKw pos (keywordEach kws X.env))) := by rfl) :
    SE X (.Call (.Attribute o mn apos) (e :: es) kws pos) (dMeth c mn n ks.length gz g de d dk) := ⟨fun W tk => ⟨fun pins s σ H Q I h => by
  obtain ⟨ρ, env, m, z, m', st, ee, pp⟩ := h
  have h' : rdE X.K W de σ H (fun v H1 => ∃ a dx gs, v = .ref a ∧ H1 a = some (.ins (He.ga X.K c) dx gs) ∧ gs.lookup mn = none ∧ rdA X.K W d σ H1 fun vs H2 => rdA X.K W dk σ H2 fun zs H3 => ∃ ρ1 m1 xs ys, RM X.K ρ1 m1 H3 ∧ RVs X.K ρ1 H3 xs (.ref a :: vs) ∧ RVs X.K ρ1 H3 ys zs ∧ xs.length = n + 1 ∧ ys.length = ks.length ∧ g (gz xs ys) m1 = some (z, m') ∧ Po X.K ρ1 H3 (RV X.K) (fun c dd H' => W c dd σ H') Q z m') :=
    bindE st ee pp fun x m1 ρ1 H1 v s1 E1 r1 e1 p1 => by
      split at e1
      · rename_i c' fs hi
        split at e1
        · rename_i hcc
          rw [Bool.and_eq_true, decide_eq_true_eq, Option.isNone_iff_eq_none] at hcc
          obtain ⟨rfl, hl⟩ := hcc
          obtain ⟨a, dx, gs, rfl, h1, h2⟩ := insD_ok s1.mem r1 hi
          refine ⟨a, dx, gs, rfl, h1, h2.none hl, bindA s1 e1 p1 fun xs m2 ρ2 H2 vs s2 E2 r2 e2 p2 => bindA s2 e2 p2 fun ys m3 ρ3 H3 zs s3 E3 r3 e3 p3 => ?_⟩
          split at e3
          · rename_i hn
            exact ⟨ρ3, m3, x :: xs, ys, s3.mem, ⟨_, _, rfl, r1.mono (E2.trans E3), r2.mono E3⟩, r3, by rw [List.length_cons, hn.1], hn.2, e3, p3⟩
          · cases e3
        · cases e1
      · cases e1
  refine PySem.W.methodCall_KW (pl := pl) (thn ((he.run W tk).run pins s σ H _ I h') fun u s1 ⟨x, H1, I1, rx, a, dx, fs, ex, ea, l, q⟩ => ?_) ht
  subst ex
  obtain rfl : u = Value.ref a := rx
  refine getmeth_ok I1 ea hc hm l ?_
  refine PySem.W.callWith_KW (first := [.ref a]) (h₀ := X.base) I.ok.mod.kin hm.kp hall (thn ((ha.run W tk).run pos pins s1 σ H1 _ I1 q) fun us s2 ⟨vs, H2, I2, r, q2⟩ => ?_) hpl hst
  refine thn ((hkw.run W tk).run pos pins s2 σ H2 _ I2 q2) fun ws s3 ⟨zs, H3, I3, rz, q3⟩ => ⟨I3.kIn, ?_⟩
  rw [hks]
  obtain ⟨ρ1, m1, xs, ys, M1, rx, ry, hn, hy, e1, p1⟩ := q3
  exact F.run hr tk (us := .ref a :: us) (vs := .ref a :: vs) I3 (.cons rfl r) rz M1 rx ry hn hy e1 p1⟩⟩
/-! ### properties -/
def dProp (c fn : Str) (gz : List Vl → List Vl → List Vl) (g : FD) (de : DE) : DE := fun env m => bindR (de env m) fun x m => match insD m x with
  | some (c', fs) => if c' = c then (match g (gz [x] []) m with
    | some (.ok v, m) => some (.ok v, m)
    | _ => none) else none
  | none => none
theorem passF : Passes (CXk X.prog X.w) X.nox (fun _ _ _ => False) := fun _ _ _ _ _ _ _ h => cxk_no h
theorem se_prop {pa : Addr} (he : SE X e de) (hc : Cls X.K (He.ga X.K c)) (hp : PropOf X.K (He.ga X.K c) fn pa f) (F : Fz X.prog X.w X.K X.mg X.base k f 1 [] gz g) (hr : Room (k + 1) X.A)
    (hab : attributeBase e fn X.env (eval e X.env) = eval e X.env := by rfl) : SE X (.Attribute e fn pos) (dProp c fn gz g de) := ⟨fun W tk => ⟨fun pins s σ H Q I h => by
  obtain ⟨ρ, env, m, z, m', st, ee, pp⟩ := h
  have h' : rdE X.K W de σ H (fun v H1 => ∃ a dx gs, v = .ref a ∧ H1 a = some (.ins (He.ga X.K c) dx gs) ∧ ∃ ρ1 m1 xs, RM X.K ρ1 m1 H1 ∧ RVs X.K ρ1 H1 xs [.ref a] ∧ xs.length = 1 ∧ g (gz xs []) m1 = some (z, m') ∧ (∃ v, z = .ok v) ∧ Po X.K ρ1 H1 (RV X.K) (fun c dd H' => W c dd σ H') Q z m') :=
    bindE st ee pp fun x m1 ρ1 H1 v s1 E1 r1 e1 p1 => by
      split at e1
      · rename_i c' fs hi
        split at e1
        · rename_i hcc
          subst hcc
          obtain ⟨a, dx, gs, rfl, h1, h2⟩ := insD_ok s1.mem r1 hi
          split at e1
          · rename_i w m2 hg
            cases e1
            exact ⟨a, dx, gs, rfl, h1, ρ1, m1, [x], s1.mem, ⟨_, _, rfl, r1, rfl⟩, rfl, hg, ⟨_, rfl⟩, p1⟩
          · cases e1
        · cases e1
      · cases e1
  refine attr_of hab (thn ((he.run W tk).run pins s σ H _ I h') fun u s1 ⟨x, H1, I1, rx, a, dx, fs, ex, ea, ρ1, m1, xs, M1, rx1, hn, e1, ⟨w, hw⟩, p1⟩ => ?_)
  subst ex
  obtain rfl : u = Value.ref a := rx
  obtain ⟨fd, ps, gs, gV, h1, h2, h3⟩ := F.ex
  subst hw
  obtain ⟨hl, rg⟩ := h3 ρ1 H1 xs [.ref a] [] [] hn rfl rx1 rfl
  obtain ⟨mA, O, _, _, _, _⟩ := ins_get I1.hok ea
  obtain ⟨od, J, _⟩ := O.look
  obtain ⟨rest, hrec⟩ := hp.rec_
  have I1' := I1.tok (s1.toks + 1)
  have hcl : (PySem.W.clsIn X.K (He.ga X.K c)).isSome = true := by
    obtain ⟨cd, hc', _⟩ := PySem.W.any_some hc.hd
    rw [hc']
    rfl
  have rv : Vals [V.ref a] [Value.ref a] := .cons rfl .nil
  have r2 := h2.rel rv (.nil : Vals [] [])
  refine PySem.W.get_bind I1.kIn J (PySem.W.plainGet_of (hc.get fn)).1 (PySem.W.findObj_data hcl hp.at_ hp.get hp.tak) (PySem.W.plainGet_of (hc.get fn)).2 (wpAny_call (PySem.W.prop_get (s := { s1 with toks := s1.toks + 1 }) I1.kIn hrec ?_))
  refine codeAny_mono (h1.run X.A.in1 X.stack { s1 with toks := s1.toks + 1 } H1 ⟨[.ref a], []⟩ (gs [.ref a] []) (gV [.ref a] []) Q (fun _ _ _ => False) hr.in1 I1'.env0.in1 (h2.to _ [.ref a] [] I1'.kIn rfl rfl) r2
    ⟨hl, ρ1, m1, _, _, m', M1, rg, e1, fun ρ' H' M E v rv => p1 ρ' H' M E v rv⟩) fun r s' hq => ?_
  cases r with
  | error er => exact False.elim (passF (X := X) pins σ H1 { s1 with toks := s1.toks + 1 } er s' (I1'.wish _) hq)
  | ok fl =>
    cases fl with
    | ret u =>
      obtain ⟨v, H', I3, rv, q3⟩ := I1'.after hq
      show wpAny _ _ (handedOut u) _ _ _
      rw [PySem.W.handedOut_of (handed_of rv)]
      exact wpAny_pure ⟨v, H', I3, rv, q3⟩
    | next => exact False.elim hq
    | brk => exact False.elim hq
    | cont => exact False.elim hq⟩⟩
/-! ### names of the module, constants of classes -/
theorem se_glo (hg : Gl X x) (hm : X.mg x = some (.ref (He.ga X.K c))) (hd : (x == ("__debug__" : Str)) = false := by decide) : SE X (.Name x pos) (dC (.glo c)) := se_of (pe_glob (v := .ref (He.ga X.K c)) hg hm rfl hd) fun _ _ => rfl
theorem se_glob {v : V} {u : Value} {y : Vl} (hg : Gl X x) (hm : X.mg x = some u) (r : RelV v u) (ry : ∀ ρ H, RV X.K ρ H y v) (hd : (x == ("__debug__" : Str)) = false := by decide) : SE X (.Name x pos) (dC y) := se_of (pe_glob hg hm r hd) ry
theorem se_ty {n : String} (hg : Gl X x) (hm : X.mg x = none) (hv : bootBuiltins x = some (.type n)) (hn : x ≠ "__name__" := by decide) (hd : (x == ("__debug__" : Str)) = false := by decide) : SE X (.Name x pos) (dC (.ty n)) := se_of (pe_bltn hg hm hv (v := .ty n) rfl hn hd) fun _ _ => rfl
end
end Z
namespace Z
open PySem PySem.Spec PyProof.Rows L2
variable [Kd]
/-! ### what is walked -/
/-- the walk J hands out the values xs, whatever is done beside -/
def ItOk (K : PySem.W.Frag) (J : It) (ρ0 : Lay) (H0 : Hp) (xs : List Vl) : Prop := ∀ (i : Nat) (ρ : Lay) (m : Mem) (H : Hp), Ext ρ0 H0 ρ H → RM K ρ m H →
  (∀ x, xs[i]? = some x → J.go i H ∧ ∀ v H', J.yld i H v H' → RM K ρ m H' ∧ Ext ρ H ρ H' ∧ RV K ρ H' x v) ∧ (xs.length ≤ i → J.stop i H)
def rdI (K : PySem.W.Frag) (W : WX) (d : DA) : TI := fun σ H R => ∃ ρ env m r m', S K ρ env m σ H ∧ d env m = some (r, m') ∧ ∀ ρ' H', RM K ρ' m' H' → Ext ρ H ρ' H' → match r with
  | .ok xs => ∀ J, ItOk K J ρ' H' xs → R J H'
  | .ex c fs => ∀ dd, XD K ρ' H' dd fs → W (.ref (He.ga K c)) dd σ H'
structure SI (X : Cx) (tg iter : Expr) (d : DA) : Prop where
  run : ∀ W, Takes X W → PI X tg iter (rdI X.K W d)
theorem impPI {X : Cx} {tg iter : Expr} {t t' : TI} (h : PI X tg iter t) (q : ∀ σ H R, t' σ H R → t σ H R) : PI X tg iter t' := ⟨fun pins s σ H R I x => h.run pins s σ H R I (q σ H R x)⟩
section
variable {K : PySem.W.Frag} {ρ0 : Lay} {H0 : Hp} {xs ys : List Vl} {vs us : List V} {a b : Addr}
theorem itOk_list (h : ∀ ρ H, Ext ρ0 H0 ρ H → SqL K H a vs) (r : RVs K ρ0 H0 xs vs) : ItOk K (Itl K a) ρ0 H0 xs := fun i ρ m H E M => by
  refine ⟨fun x hx => ?_, fun hl => ⟨vs, h ρ H E, by rw [← r.length]; exact hl⟩⟩
  obtain ⟨v, h1, h2⟩ := r.get hx
  refine ⟨⟨vs, v, h ρ H E, h1⟩, fun w H' q => ?_⟩
  obtain ⟨rfl, q2⟩ := q
  have := q2 vs (h ρ _ E)
  rw [h1] at this
  cases this
  exact ⟨M, .refl, h2.mono E⟩
theorem itOk_tup (h : ∀ ρ H, Ext ρ0 H0 ρ H → SqT K H a vs) (r : RVs K ρ0 H0 xs vs) : ItOk K (Itt K a) ρ0 H0 xs := fun i ρ m H E M => by
  refine ⟨fun x hx => ?_, fun hl => ⟨vs, h ρ H E, by rw [← r.length]; exact hl⟩⟩
  obtain ⟨v, h1, h2⟩ := r.get hx
  refine ⟨⟨vs, v, h ρ H E, h1⟩, fun w H' q => ?_⟩
  obtain ⟨rfl, q2⟩ := q
  have := q2 vs (h ρ _ E)
  rw [h1] at this
  cases this
  exact ⟨M, .refl, h2.mono E⟩
def intsZ (lo : Int) (n : Nat) : List Vl := (List.range n).map fun i => .int (lo + (i : Nat))
theorem intsZ_get {lo : Int} {n i : Nat} {x : Vl} (h : (intsZ lo n)[i]? = some x) : i < n ∧ x = .int (lo + (i : Nat)) := by
  unfold intsZ at h
  rw [List.getElem?_map] at h
  cases q : (List.range n)[i]? with
  | none =>
    rw [q] at h
    cases h
  | some j =>
    rw [q] at h
    obtain ⟨h1, h2⟩ := List.getElem?_eq_some_iff.mp q
    rw [List.getElem_range] at h2
    rw [List.length_range] at h1
    subst h2
    cases h
    exact ⟨h1, rfl⟩
theorem itOk_range {lo : Int} {n : Nat} : ItOk K (Itr lo n) ρ0 H0 (intsZ lo n) := fun i ρ m H E M => by
  refine ⟨fun x hx => ?_, fun hl => ?_⟩
  · obtain ⟨h1, rfl⟩ := intsZ_get hx
    refine ⟨h1, fun w H' q => ?_⟩
    obtain ⟨rfl, rfl⟩ := q
    exact ⟨M, .refl, rfl⟩
  · unfold intsZ at hl
    rw [List.length_map, List.length_range] at hl
    exact hl
def enumZ (xs : List Vl) : List Vl := (List.range xs.length).zipWith (fun i x => .tup [.int (i : Nat), x]) xs
theorem enumZ_get {i : Nat} {y : Vl} (h : (enumZ xs)[i]? = some y) : ∃ x, xs[i]? = some x ∧ y = .tup [.int (i : Nat), x] := by
  unfold enumZ at h
  rw [List.getElem?_zipWith] at h
  cases q : xs[i]? with
  | none =>
    rw [q] at h
    cases q2 : (List.range xs.length)[i]? <;> rw [q2] at h <;> cases h
  | some x =>
    have hi := (List.getElem?_eq_some_iff.mp q).1
    rw [q, List.getElem?_range hi] at h
    cases h
    exact ⟨x, rfl, rfl⟩
theorem enumZ_len : (enumZ xs).length = xs.length := by
  unfold enumZ
  simp
theorem itOk_enum (h : ∀ ρ H, Ext ρ0 H0 ρ H → SqL K H a vs) (r : RVs K ρ0 H0 xs vs) : ItOk K (Ite K a) ρ0 H0 (enumZ xs) := fun i ρ m H E M => by
  refine ⟨fun y hy => ?_, fun hl => ⟨vs, h ρ H E, by rw [← r.length, ← enumZ_len (xs := xs)]; exact hl⟩⟩
  obtain ⟨x, hx, rfl⟩ := enumZ_get hy
  obtain ⟨v, h1, h2⟩ := r.get hx
  refine ⟨⟨vs, v, h ρ H E, h1⟩, fun w H' q => ?_⟩
  obtain ⟨T, u, rfl, hT, rfl, q2⟩ := q
  have := q2 vs (h ρ _ E)
  rw [h1] at this
  cases this
  exact ⟨M.laid hT, ext_new hT, new_tup M hT ⟨_, _, rfl, rfl, _, _, rfl, h2.mono E, rfl⟩⟩
def zipZ (xs ys : List Vl) : List Vl := xs.zipWith (fun x y => .tup [x, y]) ys
theorem itOk_zip (h : ∀ ρ H, Ext ρ0 H0 ρ H → SqL K H a vs) (h' : ∀ ρ H, Ext ρ0 H0 ρ H → SqL K H b us) (r : RVs K ρ0 H0 xs vs) (r' : RVs K ρ0 H0 ys us) : ItOk K (Itz K a b) ρ0 H0 (zipZ xs ys) := fun i ρ m H E M => by
  refine ⟨fun z hz => ?_, fun hl => ⟨vs, us, h ρ H E, h' ρ H E, by
    unfold zipZ at hl
    rw [List.length_zipWith, r.length, r'.length] at hl
    omega⟩⟩
  unfold zipZ at hz
  rw [List.getElem?_zipWith] at hz
  cases q1 : xs[i]? with
  | none =>
    rw [q1] at hz
    cases q2 : ys[i]? <;> rw [q2] at hz <;> cases hz
  | some x =>
    rw [q1] at hz
    cases q2 : ys[i]? with
    | none =>
      rw [q2] at hz
      cases hz
    | some y =>
      rw [q2] at hz
      cases hz
      obtain ⟨v, h1, h2⟩ := r.get q1
      obtain ⟨u, h3, h4⟩ := r'.get q2
      refine ⟨⟨vs, us, v, u, h ρ H E, h' ρ H E, h1, h3⟩, fun w H' q => ?_⟩
      obtain ⟨T, v', u', rfl, hT, rfl, q5, q6⟩ := q
      have e1 := q5 vs (h ρ _ E)
      have e2 := q6 us (h' ρ _ E)
      rw [h1] at e1
      rw [h3] at e2
      cases e1
      cases e2
      exact ⟨M.laid hT, ext_new hT, new_tup M hT ⟨_, _, rfl, h2.mono E, _, _, rfl, h4.mono E, rfl⟩⟩
end
/-- lists that stay as they are: read at every later state -/
def staD : Vl → Option (List Vl)
  | .lst xs => some xs
  | .frl xs => some xs
  | _ => none
theorem staD_ok {K : PySem.W.Frag} {ρ : Lay} {H : Hp} {x : Vl} {v : V} {xs : List Vl} (a : RV K ρ H x v) (h : staD x = some xs) : ∃ p vs, v = .ref p ∧ (∀ ρ' H', Ext ρ H ρ' H' → SqL K H' p vs) ∧ RVs K ρ H xs vs := by
  cases x with
  | lst ys =>
    cases h
    obtain ⟨p, vs, rfl, n, h1, h2⟩ := a
    exact ⟨p, vs, rfl, fun ρ' H' E => SqL.of (E.keep p _ h1 n.2), h2⟩
  | frl ys =>
    cases h
    obtain ⟨p, vs, rfl, h1, h2⟩ := a
    exact ⟨p, vs, rfl, fun ρ' H' E => (h1.mono E).sq, h2⟩
  | _ => cases h
section
variable {X : Cx} {tg e : Expr} {es : List Expr} {pos p : Pos} {da db : DE} {d : DA}
def iLst (da : DE) : DA := fun env m => bindR (da env m) fun x m => match staD x with
  | some xs => some (.ok xs, m)
  | none => none
theorem rdI_E {K : PySem.W.Frag} {W : WX} {f : Vl → Mem → Option (R (List Vl) × Mem)} {σ : L2.St} {H : Hp} {R : It → Hp → Prop} {Q : VK} (h : rdI K W (fun env m => bindR (da env m) f) σ H R)
    (k : ∀ x m1 ρ env xs v H1, S K ρ env m1 σ H1 → RV K ρ H1 x v → f x m1 = some (.ok xs, m1) → (∀ J, ItOk K J ρ H1 xs → R J H1) → Q v H1) (hf : ∀ x m r m', f x m = some (r, m') → (∃ xs, r = .ok xs) ∧ m' = m) : rdE K W da σ H Q := by
  obtain ⟨ρ, env, m, r, m', s, e, p⟩ := h
  have e' : bindR (da env m) f = some (r, m') := e
  unfold bindR at e'
  split at e'
  · cases e'
  · rename_i x m1 h0
    obtain ⟨⟨xs, rfl⟩, rfl⟩ := hf x m1 r m' e'
    exact goE s h0 fun ρ' H' v s' E rv => k x _ ρ' env xs v H' s' rv e' fun J hJ => p ρ' H' s'.mem E J hJ
  · rename_i c fs m1 h0
    cases e'
    exact exE s h0 fun ρ' H' dd s' E r => p ρ' H' s'.mem E dd r
theorem rdI_A {K : PySem.W.Frag} {W : WX} {f : List Vl → Mem → Option (R (List Vl) × Mem)} {σ : L2.St} {H : Hp} {R : It → Hp → Prop} {Q : List V → Hp → Prop} (h : rdI K W (fun env m => bindR (d env m) f) σ H R)
    (k : ∀ x m1 ρ env xs v H1, S K ρ env m1 σ H1 → RVs K ρ H1 x v → f x m1 = some (.ok xs, m1) → (∀ J, ItOk K J ρ H1 xs → R J H1) → Q v H1) (hf : ∀ x m r m', f x m = some (r, m') → (∃ xs, r = .ok xs) ∧ m' = m) : rdA K W d σ H Q := by
  obtain ⟨ρ, env, m, r, m', s, e, p⟩ := h
  have e' : bindR (d env m) f = some (r, m') := e
  unfold bindR at e'
  split at e'
  · cases e'
  · rename_i x m1 h0
    obtain ⟨⟨xs, rfl⟩, rfl⟩ := hf x m1 r m' e'
    exact goA s h0 fun ρ' H' v s' E rv => k x _ ρ' env xs v H' s' rv e' fun J hJ => p ρ' H' s'.mem E J hJ
  · rename_i c fs m1 h0
    cases e'
    exact exA s h0 fun ρ' H' dd s' E r => p ρ' H' s'.mem E dd r
theorem si_list (ha : SE X e da) : SI X tg e (iLst da) := ⟨fun W tk => impPI (pi_list (ha.run W tk)) fun σ H R h =>
  rdI_E (Q := fun x H1 => ∃ a, x = .ref a ∧ (∃ xs, SqL X.K H1 a xs) ∧ R (Itl X.K a) H1) h (fun x m1 ρ env xs v H1 s r e k => by
    split at e
    · rename_i ys hy
      cases e
      obtain ⟨p, vs, rfl, h1, h2⟩ := staD_ok r hy
      exact ⟨p, rfl, ⟨vs, h1 ρ H1 .refl⟩, k _ (itOk_list h1 h2)⟩
    · cases e) fun x m r m' e => by
    split at e
    · cases e
      exact ⟨⟨_, rfl⟩, rfl⟩
    · cases e⟩
def iTupD (da : DE) : DA := fun env m => bindR (da env m) fun x m => match x with
  | .tup xs => some (.ok xs, m)
  | _ => none
theorem si_tup (ha : SE X e da) : SI X tg e (iTupD da) := ⟨fun W tk => impPI (pi_tup (ha.run W tk)) fun σ H R h =>
  rdI_E (Q := fun x H1 => ∃ a, x = .ref a ∧ (∃ xs, SqT X.K H1 a xs) ∧ R (Itt X.K a) H1) h (fun x m1 ρ env xs v H1 s r e k => by
    split at e
    · cases e
      obtain ⟨p, vs, rfl, h1, h2⟩ := r
      exact ⟨p, rfl, ⟨vs, h1.sq⟩, k _ (itOk_tup (fun ρ' H' E => (h1.mono E).sq) h2)⟩
    · cases e) fun x m r m' e => by
    split at e
    · cases e
      exact ⟨⟨_, rfl⟩, rfl⟩
    · cases e⟩
/-- a list or a tuple -/
theorem PI.or {t t' : TI} (h : PI X tg e t) (h' : PI X tg e t') : PI X tg e (fun σ H R => t σ H R ∨ t' σ H R) := ⟨fun pins s σ H R I x => x.elim (fun x => h.run pins s σ H R I x) fun x => h'.run pins s σ H R I x⟩
def iSeqD (da : DE) : DA := fun env m => match da env m with
  | some (.ok (.tup xs), m) => some (.ok xs, m)
  | some (.ok x, m) => (match staD x with
    | some xs => some (.ok xs, m)
    | none => none)
  | some (.ex c fs, m) => some (.ex c fs, m)
  | none => none
theorem si_seq (ha : SE X e da) : SI X tg e (iSeqD da) := ⟨fun W tk => impPI (PI.or (pi_list (ha.run W tk)) (pi_tup (ha.run W tk))) fun σ H R ⟨ρ, env, m, r, m', s, e, p⟩ => by
  unfold iSeqD at e
  split at e
  · rename_i xs m1 h0
    cases e
    refine .inr (goE s h0 fun ρ' H' v s' E rv => ?_)
    obtain ⟨q, vs, rfl, h1, h2⟩ := rv
    exact ⟨q, rfl, ⟨vs, h1.sq⟩, p ρ' H' s'.mem E _ (itOk_tup (fun ρ' H' E => (h1.mono E).sq) h2)⟩
  · rename_i x m1 hne h0
    split at e
    · rename_i ys hy
      cases e
      refine .inl (goE s h0 fun ρ' H' v s' E rv => ?_)
      obtain ⟨q, vs, rfl, h1, h2⟩ := staD_ok rv hy
      exact ⟨q, rfl, ⟨vs, h1 ρ' H' .refl⟩, p ρ' H' s'.mem E _ (itOk_list h1 h2)⟩
    · cases e
  · rename_i c fs m1 h0
    cases e
    exact .inl (exE s h0 fun ρ' H' dd s' E r => p ρ' H' s'.mem E dd r)
  · cases e⟩
def rng1 (xs : List Vl) : Option (List Vl) := match xs with
  | [.int j] => if (decide (-(2 ^ 62) ≤ j) && decide (j < 2 ^ 62)) = true then some (intsZ 0 j.toNat) else none
  | _ => none
def iRg1 (d : DA) : DA := fun env m => bindR (d env m) fun xs m => match rng1 xs with
  | some ys => some (.ok ys, m)
  | none => none
theorem si_range1 {a : Expr} (hg : Gl X "range") (hm : X.mg "range" = none) (ha : SA X [a] d) (hs : starEach [a] X.env = [(false, eval a X.env)] := by rfl) : SI X tg (.Call (.Name "range" p) [a] [] pos) (iRg1 d) := ⟨fun W tk => impPI (pi_range1 hg hm (ha.run W tk) hs) fun σ H R h =>
  rdI_A (Q := fun vs H1 => ∃ j : Int, vs = [.int j] ∧ -(2 ^ 62) ≤ j ∧ j < 2 ^ 62 ∧ R (Itr 0 j.toNat) H1) h (fun x m1 ρ env xs v H1 s r e k => by
    split at e
    · rename_i ys hy
      cases e
      unfold rng1 at hy
      split at hy
      · rename_i j
        split at hy
        · rename_i c
          cases hy
          rw [Bool.and_eq_true, decide_eq_true_eq, decide_eq_true_eq] at c
          obtain ⟨w, vs, rfl, r1, r2⟩ := r
          subst r2
          exact ⟨j, by rw [show w = V.int j from r1], c.1, c.2, k _ itOk_range⟩
        · cases hy
      · cases hy
    · cases e) fun x m r m' e => by
    split at e
    · cases e
      exact ⟨⟨_, rfl⟩, rfl⟩
    · cases e⟩
def rng2 (xs : List Vl) : Option (List Vl) := match xs with
  | [.int i, .int j] => if (decide (-(2 ^ 62) ≤ i) && (decide (i < 2 ^ 62) && (decide (-(2 ^ 62) ≤ j) && decide (j < 2 ^ 62)))) = true then some (intsZ i (j - i).toNat) else none
  | _ => none
def iRg2 (d : DA) : DA := fun env m => bindR (d env m) fun xs m => match rng2 xs with
  | some ys => some (.ok ys, m)
  | none => none
theorem si_range2 {a b : Expr} (hg : Gl X "range") (hm : X.mg "range" = none) (ha : SA X [a, b] d) (hs : starEach [a, b] X.env = [(false, eval a X.env), (false, eval b X.env)] := by rfl) (hs2 : starEach [b] X.env = [(false, eval b X.env)] := by rfl) :
    SI X tg (.Call (.Name "range" p) [a, b] [] pos) (iRg2 d) := ⟨fun W tk => impPI (pi_range2 hg hm (ha.run W tk) hs hs2) fun σ H R h =>
  rdI_A (Q := fun vs H1 => ∃ i j : Int, vs = [.int i, .int j] ∧ (-(2 ^ 62) ≤ i ∧ i < 2 ^ 62 ∧ -(2 ^ 62) ≤ j ∧ j < 2 ^ 62) ∧ R (Itr i (j - i).toNat) H1) h (fun x m1 ρ env xs v H1 s r e k => by
    split at e
    · rename_i ys hy
      cases e
      unfold rng2 at hy
      split at hy
      · rename_i i j
        split at hy
        · rename_i c
          cases hy
          simp only [Bool.and_eq_true, decide_eq_true_eq] at c
          obtain ⟨w, vs, rfl, r1, w2, vs2, rfl, r2, r3⟩ := r
          subst r3
          exact ⟨i, j, by rw [show w = V.int i from r1, show w2 = V.int j from r2], c, k _ itOk_range⟩
        · cases hy
      · cases hy
    · cases e) fun x m r m' e => by
    split at e
    · cases e
      exact ⟨⟨_, rfl⟩, rfl⟩
    · cases e⟩
def iEnm (d : DA) : DA := fun env m => bindR (d env m) fun xs m => match xs with
  | [x] => (match staD x with
    | some ys => some (.ok (enumZ ys), m)
    | none => none)
  | _ => none
theorem si_enum {elts : List Expr} {kk : Nat} {tpos : Pos} (hg : Gl X "enumerate") (hm : X.mg "enumerate" = none) (ha : SA X [e] d) (hs : starEach [e] X.env = [(false, eval e X.env)] := by rfl) :
    SI X (.Tuple elts kk tpos) (.Call (.Name "enumerate" p) [e] [] pos) (iEnm d) := ⟨fun W tk => impPI (pi_enum hg hm (ha.run W tk) hs) fun σ H R h =>
  rdI_A (Q := fun vs H1 => ∃ a xs, vs = [.ref a] ∧ SqL X.K H1 a xs ∧ R (Ite X.K a) H1) h (fun x m1 ρ env xs v H1 s r e k => by
    split at e
    · rename_i y
      split at e
      · rename_i ys hy
        cases e
        obtain ⟨w, vs, rfl, r1, r2⟩ := r
        subst r2
        obtain ⟨q, vs, rfl, h1, h2⟩ := staD_ok r1 hy
        exact ⟨q, vs, rfl, h1 ρ H1 .refl, k _ (itOk_enum h1 h2)⟩
      · cases e
    · cases e) fun x m r m' e => by
    split at e
    · split at e
      · cases e
        exact ⟨⟨_, rfl⟩, rfl⟩
      · cases e
    · cases e⟩
def iZp (d : DA) : DA := fun env m => bindR (d env m) fun xs m => match xs with
  | [x, y] => (match staD x, staD y with
    | some xs, some ys => some (.ok (zipZ xs ys), m)
    | _, _ => none)
  | _ => none
theorem si_zip {e2 : Expr} {elts : List Expr} {kk : Nat} {tpos : Pos} (hg : Gl X "zip") (hm : X.mg "zip" = none) (ha : SA X [e, e2] d)
    (hs : starEach [e, e2] X.env = (false, eval e X.env) :: starEach [e2] X.env := by rfl) (hpl : (backTo pos (starEach [e2] X.env)).any (·.1) = false := by rfl) :
    SI X (.Tuple elts kk tpos) (.Call (.Name "zip" p) [e, e2] [] pos) (iZp d) := ⟨fun W tk => impPI (pi_zip hg hm (ha.run W tk) hs hpl) fun σ H R h =>
  rdI_A (Q := fun vs H1 => ∃ a b xs ys, vs = [.ref a, .ref b] ∧ SqL X.K H1 a xs ∧ SqL X.K H1 b ys ∧ R (Itz X.K a b) H1) h (fun x m1 ρ env xs v H1 s r e k => by
    split at e
    · rename_i y z
      split at e
      · rename_i ys zs hy hz
        cases e
        obtain ⟨w, vs, rfl, r1, w2, vs2, rfl, r2, r3⟩ := r
        subst r3
        obtain ⟨q, vs, rfl, h1, h2⟩ := staD_ok r1 hy
        obtain ⟨q2, vs2, rfl, h3, h4⟩ := staD_ok r2 hz
        exact ⟨q, q2, vs, vs2, rfl, h1 ρ H1 .refl, h3 ρ H1 .refl, k _ (itOk_zip h1 h3 h2 h4)⟩
      · cases e
    · cases e) fun x m r m' e => by
    split at e
    · split at e
      · cases e
        exact ⟨⟨_, rfl⟩, rfl⟩
      · cases e
    · cases e⟩
def chrs (x : Str) : List Vl := x.cps.toList.map fun c => .str ⟨#[c]⟩
def iStrD (da : DE) : DA := fun env m => bindR (da env m) fun x m => match x with
  | .str z => some (.ok (chrs z), m)
  | _ => none
theorem si_str (ha : SE X e da) : SI X tg e (iStrD da) := ⟨fun W tk => impPI (pi_str (ha.run W tk)) fun σ H R h =>
  rdI_E (Q := fun v H1 => ∃ x, v = .str x ∧ R (Its x) H1) h (fun x m1 ρ env xs v H1 s r e k => by
    split at e
    · rename_i z
      cases e
      refine ⟨z, r, k _ fun i ρ' m' H' E M => ⟨fun y hy => ?_, fun hl => ?_⟩⟩
      · unfold chrs at hy
        rw [List.getElem?_map] at hy
        cases q : z.cps.toList[i]? with
        | none =>
          rw [q] at hy
          cases hy
        | some c =>
          rw [q] at hy
          cases hy
          have q' : z.cps[i]? = some c := by rw [← Array.getElem?_toList]; exact q
          refine ⟨(Array.getElem?_eq_some_iff.mp q').1, fun w H2 h2 => ?_⟩
          obtain ⟨rfl, c', h3, rfl⟩ := h2
          rw [q'] at h3
          cases h3
          exact ⟨M, .refl, rfl⟩
      · unfold chrs at hl
        show z.cps.size ≤ i
        simpa using hl
    · cases e) fun x m r m' e => by
    split at e
    · cases e
      exact ⟨⟨_, rfl⟩, rfl⟩
    · cases e⟩
/-! ### for -/
def forL (g : DG) (body : DS) : List Vl → Ev → Mem → Option (Fl × Mem)
  | [], env, m => some (.nx env, m)
  | x :: xs, env, m => match g x env m with
    | some (env1, m1) => (match body env1 m1 with
      | some (.nx env2, m2) => forL g body xs env2 m2
      | some (.ct env2, m2) => forL g body xs env2 m2
      | some (.bk env2, m2) => some (.nx env2, m2)
      | r => r)
    | none => none
def dFor (d : DA) (g : DG) (body : DS) : DS := fun env m => bindS (d env m) env fun xs m => forL g body xs env m
theorem ss_for {body : List Stmt} {g : DG} {db : DS} (hp : PassesOwn (model X.prog X.w) X.A X.env X.xe) (hc : X.calm = true) (hi : SI X tg e d) (hg : SG X tg g) (hb : SSs X body db)
    (hs : ∀ x, foldedSetIterable e X.env x = pure x := by intro _; rfl) : SS X (.For tg e body [] pos) (dFor d g db) := ⟨fun W tk =>
  impPS (ps_for hp hc (hi.run W tk) (hg.run W tk) (hb.run W tk) hs) fun D σ H ⟨ρ, env, m, f, m', s, e, p⟩ => by
    unfold dFor bindS at e
    split at e
    · cases e
    · rename_i xs m1 h0
      refine ⟨ρ, env, m, _, _, s, h0, fun ρ1 H1 M1 E1 J hJ => ?_⟩
      refine ⟨fun i k σ' H' => k + i = xs.length ∧ ∃ ρ' env' m2, S X.K ρ' env' m2 σ' H' ∧ Ext ρ1 H1 ρ' H' ∧ forL g db (xs.drop i) env' m2 = some (f, m'), ⟨xs.length, rfl, ρ1, env, m1, ⟨M1, s.env.mono E1⟩, .refl, e⟩, fun i k σ' H' ⟨hk, ρ', env', m2, s', E', e'⟩ => ?_⟩
      obtain ⟨j1, j2⟩ := hJ i ρ' m2 H' E' s'.mem
      cases k with
      | zero =>
        refine .inl ⟨j2 (by omega), ?_⟩
        rw [List.drop_of_length_le (by omega)] at e'
        cases e'
        exact p ρ' H' s'.mem (E1.trans E') σ' s'.env
      | succ k =>
        have hi : i < xs.length := by omega
        obtain ⟨j3, j4⟩ := j1 xs[i] (by simp [hi])
        refine .inr ⟨j3, fun σ2 H2 => k + (i + 1) = xs.length ∧ ∃ ρ' env' m2, S X.K ρ' env' m2 σ2 H2 ∧ Ext ρ1 H1 ρ' H2 ∧ forL g db (xs.drop (i + 1)) env' m2 = some (f, m'), fun σ2 H2 h2 => ⟨k, Nat.lt_succ_self k, h2⟩, fun v H2 hy => ?_⟩
        obtain ⟨M2, E2, r2⟩ := j4 v H2 hy
        rw [List.drop_eq_getElem_cons hi] at e'
        unfold forL at e'
        split at e'
        · rename_i env1 m3 hg'
          refine ⟨ρ', env', m2, xs[i], env1, m3, s'.to E2 M2, r2, hg', fun ρ3 H3 σ3 s3 E3 => ?_⟩
          have E4 := (E'.trans E2).trans E3
          split at e'
          · rename_i env2 m4 hb'
            exact ⟨ρ3, env1, m3, _, _, s3, hb', fun ρ4 H4 M4 E5 σ4 r4 => ⟨by omega, ρ4, env2, m4, ⟨M4, r4⟩, E4.trans E5, e'⟩⟩
          · rename_i env2 m4 hb'
            exact ⟨ρ3, env1, m3, _, _, s3, hb', fun ρ4 H4 M4 E5 σ4 r4 => ⟨by omega, ρ4, env2, m4, ⟨M4, r4⟩, E4.trans E5, e'⟩⟩
          · rename_i env2 m4 hb'
            cases e'
            exact ⟨ρ3, env1, m3, _, _, s3, hb', fun ρ4 H4 M4 E5 σ4 r4 => p ρ4 H4 M4 (E1.trans (E4.trans E5)) σ4 r4⟩
          · rename_i r0 n1 n2 n3
            refine ⟨ρ3, env1, m3, f, m', s3, e', fun ρ4 H4 M4 E5 => ?_⟩
            have pp := p ρ4 H4 M4 (E1.trans (E4.trans E5))
            cases f with
            | rt v => exact pp
            | ex c fs env2 => exact pp
            | nx env2 => exact absurd e' (n1 env2 m')
            | ct env2 => exact absurd e' (n2 env2 m')
            | bk env2 => exact absurd e' (n3 env2 m')
        · cases e'
    · rename_i c fs m1 h0
      cases e
      exact ⟨ρ, env, m, _, _, s, h0, fun ρ' H' M E dd x => p ρ' H' M E σ (s.env.mono E) dd x⟩⟩
end
end Z
namespace Z
open PySem PySem.Spec PyProof.Rows L2
variable [Kd]
/-! ### list comprehensions -/
theorem takesF {X : Cx} : Takes X (fun _ _ _ _ => False) := takesNo
def wipeE (env : Ev) : List Nat → Ev
  | [] => env
  | v :: vs => (wipeE env vs).set v none
theorem RE.wipe {K : PySem.W.Frag} {ρ : Lay} {H : Hp} {env : Ev} {σ : L2.St} (h : RE K ρ H env σ) : ∀ vs : List Nat, RE K ρ H (wipeE env vs) (L2.wipe σ vs)
  | [] => h
  | _ :: vs => (RE.wipe h vs).unset
theorem wipe_set {σ : L2.St} {i : Nat} {o : Option V} : ∀ {vs : List Nat}, i ∈ vs → L2.wipe (σ.set i o) vs = L2.wipe σ vs
  | [], h => by simp at h
  | v :: vs, h => by
    unfold L2.wipe
    by_cases q : i ∈ vs
    · rw [wipe_set q]
    · have e : i = v := by
        rcases List.mem_cons.mp h with e | e
        · exact e
        · exact absurd e q
      subst e
      have key : ∀ (ws : List Nat), i ∉ ws → L2.wipe (σ.set i o) ws = (L2.wipe σ ws).set i o := by
        intro ws
        induction ws with
        | nil => intro _; rfl
        | cons w ws ih =>
          intro hn
          simp only [List.mem_cons, not_or] at hn
          unfold L2.wipe
          rw [ih hn.2, List.set_comm _ _ hn.1]
      rw [key vs q, List.set_set]
theorem wipe_wipe {σ : L2.St} : ∀ {vs ws : List Nat}, (∀ i ∈ vs, i ∈ ws) → L2.wipe (L2.wipe σ vs) ws = L2.wipe σ ws
  | [], _, _ => rfl
  | v :: vs, ws, h => by
    show L2.wipe ((L2.wipe σ vs).set v none) ws = _
    rw [wipe_set (h v List.mem_cons_self), wipe_wipe fun i hi => h i (List.mem_cons_of_mem _ hi)]
/-- targets of a block's own names, at the slots vs -/
abbrev DGc := Vl → Ev → Option Ev
def rdGc (K : PySem.W.Frag) (d : DGc) (vs : List Nat) : TG := fun v σ H Q => ∃ ρ env m x env', S K ρ env m σ H ∧ RV K ρ H x v ∧ d x env = some env' ∧ ∀ σ', S K ρ env' m σ' H → L2.wipe σ' vs = L2.wipe σ vs → Q σ' H
structure SGc (X : Cx) (t : Expr) (d : DGc) (vs : List Nat) : Prop where
  run : PG X t (rdGc X.K d vs)
def rdGcs (K : PySem.W.Frag) (d : List Vl → Ev → Option Ev) (vs : List Nat) : TGs := fun us σ H Q => ∃ ρ env m xs env', S K ρ env m σ H ∧ RVs K ρ H xs us ∧ d xs env = some env' ∧ ∀ σ', S K ρ env' m σ' H → L2.wipe σ' vs = L2.wipe σ vs → Q σ' H
structure SGcs (X : Cx) (ts : List Expr) (d : List Vl → Ev → Option Ev) (vs : List Nat) : Prop where
  run : PGs X ts (rdGcs X.K d vs)
section
variable {X : Cx} {pos : Pos} {vs : List Nat}
def gcVar (i : Nat) : DGc := fun x env => some (env.set i (some x))
theorem sgc_name {i : Nat} {x : Str} (hN : X.N.Nodup) (hi : X.N[i]? = some x) (hx : Loc X.env.scope x) (hv : i ∈ vs := by decide) (hf : X.fn x = true ∨ X.env.scope.names.lookup x = some .local := by first | exact .inl rfl | exact .inr rfl | assumption) : SGc X (.Name x pos) (gcVar i) vs :=
  ⟨impPG (pg_name hN hi hx hf) fun v σ H Q ⟨ρ, env, m, x, env', s, r, e, p⟩ => by
    cases e
    exact p _ ⟨s.mem, s.env.set r⟩ (wipe_set hv)⟩
def gcsNil : List Vl → Ev → Option Ev := fun xs env => match xs with
  | [] => some env
  | _ => none
def gcsCons (d : DGc) (ds : List Vl → Ev → Option Ev) : List Vl → Ev → Option Ev := fun xs env => match xs with
  | x :: r => (match d x env with
    | some env1 => ds r env1
    | none => none)
  | [] => none
theorem sgcs_nil : SGcs X [] gcsNil vs := ⟨impPGs pgs_nil fun v σ H Q ⟨ρ, env, m, xs, env', s, r, e, p⟩ => by
  cases xs with
  | nil =>
    cases e
    exact ⟨r, p _ s rfl⟩
  | cons x xs => cases e⟩
theorem sgcs_cons {t : Expr} {ts : List Expr} {dg : DGc} {ds : List Vl → Ev → Option Ev} (h1 : SGc X t dg vs) (h2 : SGcs X ts ds vs)
    (hs : (assignEach (t :: ts) X.env).map (·.2) = assign t X.env :: (assignEach ts X.env).map (·.2) := by rfl) : SGcs X (t :: ts) (gcsCons dg ds) vs := ⟨impPGs (pgs_cons h1.run h2.run hs) fun v σ H Q ⟨ρ, env, m, xs, env', s, r, e, p⟩ => by
  cases xs with
  | nil => cases e
  | cons x xs =>
    obtain ⟨v, us, rfl, r1, r2⟩ := r
    cases h : dg x env with
    | none =>
      simp only [gcsCons, h] at e
      cases e
    | some env1 =>
      simp only [gcsCons, h] at e
      exact ⟨v, us, rfl, ρ, env, m, x, env1, s, r1, h, fun σ' s' w' => ⟨ρ, env1, m, xs, env', s', r2, e, fun σ2 s2 w2 => p σ2 s2 (w2.trans w')⟩⟩⟩
def gcTup (ds : List Vl → Ev → Option Ev) : DGc := fun x env => match x with
  | .tup xs => ds xs env
  | _ => none
def GcsLen (ds : List Vl → Ev → Option Ev) (n : Nat) : Prop := ∀ xs env r, ds xs env = some r → xs.length = n
theorem gcl_nil : GcsLen gcsNil 0 := fun xs env r h => by
  cases xs with
  | nil => rfl
  | cons x xs => cases h
theorem gcl_cons {dg : DGc} {ds : List Vl → Ev → Option Ev} {n : Nat} (h : GcsLen ds n) : GcsLen (gcsCons dg ds) (n + 1) := fun xs env r e => by
  cases xs with
  | nil => cases e
  | cons x xs =>
    cases q : dg x env with
    | none =>
      simp only [gcsCons, q] at e
      cases e
    | some z =>
      simp only [gcsCons, q] at e
      rw [List.length_cons, h _ _ _ e]
theorem sgc_tup {es : List Expr} {k n : Nat} {ds : List Vl → Ev → Option Ev} (hc : X.calm = true) (h : SGcs X es ds vs) (hl : GcsLen ds n)
    (hn : (assignEach es X.env).length = n := by rfl) (hst : (assignEach es X.env).findIdx? (·.1) = none := by rfl) : SGc X (.Tuple es k pos) (gcTup ds) vs := ⟨impPG (pg_tup hc h.run hn hst) fun v σ H Q ⟨ρ, env, m, x, env', s, r, e, p⟩ => by
  unfold gcTup at e
  split at e
  · rename_i xs
    obtain ⟨a, us, rfl, h2, h3⟩ := r
    exact ⟨a, us, rfl, h2.sq, by rw [← h3.length]; exact hl _ _ _ e, ρ, env, m, xs, env', s, h3, e, p⟩
  · cases e⟩
/-- the tests of a comprehension -/
structure STs (X : Cx) (ifs : List Expr) (d : DT) : Prop where
  run : ∀ W, Takes X W → PTs X ifs (rdT X.K W d)
def dYes : DT := fun _ m => some (.ok true, m)
theorem impPTs {ifs : List Expr} {t t' : TT} (h : PTs X ifs t) (q : ∀ σ H Q, t' σ H Q → t σ H Q) : PTs X ifs t' := ⟨fun pins s σ H Q I x => h.run pins s σ H Q I (q σ H Q x)⟩
theorem sts_nil : STs X [] dYes := ⟨fun W tk => impPTs pts_nil fun σ H Q ⟨ρ, env, m, z, m', s, e, p⟩ => by
  cases e
  exact p ρ H s.mem .refl true rfl⟩
theorem sts_one {e : Expr} {dt : DT} (h : ST X e dt) : STs X [e] dt := ⟨fun W tk => pts_one (h.run W tk)⟩
/-! a list that nobody knows is changed -/
theorem ne_mem {l : List Addr} {a p : Addr} (h : a ∈ l) (n : p ∉ l) : a ≠ p := fun e => n (by rw [← e]; exact h)
section
variable {K : PySem.W.Frag} {ρ : Lay} {H : Hp} {p : Addr} {us ws : List V}
mutual
theorem RV.priv (nc : p ∉ ρ.c) (nz : p ∉ ρ.z) (hp : H p = some (.lst us)) : ∀ (x : Vl) {v : V}, RV K ρ H x v → RV K ρ (upd H p (.lst ws)) x v
  | .non, _, h => h
  | .bl _, _, h => h
  | .int _, _, h => h
  | .str _, _, h => h
  | .ty _, _, h => h
  | .glo _, _, h => h
  | .tup xs, _, ⟨a, vs, h1, h2, h3⟩ => ⟨a, vs, h1, h2.elim (fun h => .inl ⟨h.1, by
      have ne : ∀ {u : HO}, H a = some u → (∀ zs, u ≠ .lst zs) → upd H p (.lst ws) a = some u := fun {u} e hu => by
        rw [upd_ne (fun q => by subst q; rw [hp] at e; cases e; exact hu _ rfl)]
        exact e
      rcases h.2 with h | ⟨o, h⟩
      · exact .inl (ne h fun _ q => nomatch q)
      · exact .inr ⟨o, ne h fun _ q => nomatch q⟩⟩) .inr, RVs.priv nc nz hp xs h3⟩
  | .lst xs, _, ⟨a, vs, h1, n, h2, h3⟩ => ⟨a, vs, h1, n, by rw [upd_ne (ne_mem n.1 nz)]; exact h2, RVs.priv nc nz hp xs h3⟩
  | .frl xs, _, ⟨a, vs, h1, h2, h3⟩ => ⟨a, vs, h1, h2.elim (fun h => .inl ⟨h.1, by
      obtain ⟨o, h⟩ := h.2
      refine ⟨o, ?_⟩
      rw [upd_ne (fun q => by subst q; rw [hp] at h; cases h)]
      exact h⟩) .inr, RVs.priv nc nz hp xs h3⟩
  | .dic xs, _, ⟨a, vs, h1, n, h2, h3⟩ => ⟨a, vs, h1, n, by rw [upd_ne (ne_mem n.1 nz)]; exact h2, RKs.priv nc nz hp xs h3⟩
  | .dit xs, _, ⟨a, vs, h1, n, h2, h3⟩ => ⟨a, vs, h1, n, by rw [upd_ne (ne_mem n.1 nz)]; exact h2, RTs.priv nc nz hp xs h3⟩
  | .ins c fs, _, ⟨a, dx, gs, h1, n, h2, h3⟩ => ⟨a, dx, gs, h1, n, by rw [upd_ne (ne_mem n.1 nz)]; exact h2, RFs.priv nc nz hp fs h3⟩
  | .obj n, _, h => h
  | .err _ fs, _, ⟨a, d, gs, h1, n, h2, h3, h4⟩ => ⟨a, d, gs, h1, n, by rw [upd_ne (fun q => by subst q; rw [hp] at h2; cases h2)]; exact h2, h3.elim (fun ⟨dd, q1, q2, q3⟩ => .inl ⟨dd, q1, q2, by rw [upd_ne (fun q => by subst q; rw [hp] at q3; cases q3)]; exact q3⟩) .inr, RFs.priv nc nz hp fs h4⟩
theorem RVs.priv (nc : p ∉ ρ.c) (nz : p ∉ ρ.z) (hp : H p = some (.lst us)) : ∀ (xs : List Vl) {vs : List V}, RVs K ρ H xs vs → RVs K ρ (upd H p (.lst ws)) xs vs
  | [], _, h => h
  | x :: xs, _, ⟨v, r, h1, h2, h3⟩ => ⟨v, r, h1, RV.priv nc nz hp x h2, RVs.priv nc nz hp xs h3⟩
theorem RKs.priv (nc : p ∉ ρ.c) (nz : p ∉ ρ.z) (hp : H p = some (.lst us)) : ∀ (xs : List (Key × Vl)) {vs : List (Key × V)}, RKs K ρ H xs vs → RKs K ρ (upd H p (.lst ws)) xs vs
  | [], _, h => h
  | (k, x) :: xs, _, ⟨v, r, h1, h2, h3⟩ => ⟨v, r, h1, RV.priv nc nz hp x h2, RKs.priv nc nz hp xs h3⟩
theorem RTs.priv (nc : p ∉ ρ.c) (nz : p ∉ ρ.z) (hp : H p = some (.lst us)) : ∀ (xs : List (List Key × Vl)) {vs : List (List Key × V)}, RTs K ρ H xs vs → RTs K ρ (upd H p (.lst ws)) xs vs
  | [], _, h => h
  | (k, x) :: xs, _, ⟨v, r, h1, h2, h3⟩ => ⟨v, r, h1, RV.priv nc nz hp x h2, RTs.priv nc nz hp xs h3⟩
theorem RFs.priv (nc : p ∉ ρ.c) (nz : p ∉ ρ.z) (hp : H p = some (.lst us)) : ∀ (xs : List (Str × Vl)) {vs : List (Str × V)}, RFs K ρ H xs vs → RFs K ρ (upd H p (.lst ws)) xs vs
  | [], _, h => h
  | (k, x) :: xs, _, ⟨v, r, h1, h2, h3⟩ => ⟨v, r, h1, RV.priv nc nz hp x h2, RFs.priv nc nz hp xs h3⟩
end
theorem RC.priv {a : Addr} (ha : a ∈ ρ.c) (nc : p ∉ ρ.c) (nz : p ∉ ρ.z) (hp : H p = Option.some (.lst us)) : ∀ {c : Cell}, RC K ρ H a c → RC K ρ (upd H p (.lst ws)) a c
  | .lst xs, ⟨vs, h1, h2⟩ => ⟨vs, by rw [upd_ne (ne_mem ha nc)]; exact h1, RVs.priv nc nz hp xs h2⟩
  | .dic xs, ⟨vs, h1, h2⟩ => ⟨vs, by rw [upd_ne (ne_mem ha nc)]; exact h1, RKs.priv nc nz hp xs h2⟩
  | .dit xs, ⟨vs, h1, h2⟩ => ⟨vs, by rw [upd_ne (ne_mem ha nc)]; exact h1, RTs.priv nc nz hp xs h2⟩
  | .ins _ xs, ⟨dx, vs, h1, h2⟩ => ⟨dx, vs, by rw [upd_ne (ne_mem ha nc)]; exact h1, RFs.priv nc nz hp xs h2⟩
theorem S.priv {env : Ev} {m : Mem} {σ : L2.St} (s : S K ρ env m σ H) (nc : p ∉ ρ.c) (nz : p ∉ ρ.z) (hp : H p = some (.lst us)) : S K ρ env m σ (upd H p (.lst ws)) :=
  ⟨⟨s.mem.nd, s.mem.len, fun n c a h1 h2 => (s.mem.at_ n c a h1 h2).priv (List.mem_of_getElem? h2) nc nz hp, fun a ha => ⟨(s.mem.zt a ha).1, let ⟨_, e⟩ := (s.mem.zt a ha).2; upd_stay e⟩⟩,
    s.env.1, fun i x e => let ⟨v, h1, h2⟩ := s.env.2 i x e; ⟨v, h1, h2.priv nc nz hp⟩⟩
theorem Ext.priv {ρ0 : Lay} {H0 : Hp} (E : Ext ρ0 H0 ρ H) (hn : H0 p = Option.none) : Ext ρ0 H0 ρ (upd H p (.lst ws)) :=
  ⟨E.pre, E.zin, fun a o e n => by rw [upd_ne (ne_of_none e hn)]; exact E.keep a o e n, fun a o e => let ⟨o', h⟩ := E.stay a o e; upd_stay h, E.oldc, E.oldz⟩
end
/-- the values that the turns give -/
def lcZ (g : DGc) (dt : DT) (de : DE) (env : Ev) : List Vl → Mem → Option (List Vl × Mem)
  | [], m => some ([], m)
  | x :: xs, m => match g x env with
    | some env1 => (match dt env1 m with
      | some (.ok true, m1) => (match de env1 m1 with
        | some (.ok y, m2) => (match lcZ g dt de env xs m2 with
          | some (ys, m3) => some (y :: ys, m3)
          | none => none)
        | _ => none)
      | some (.ok false, m1) => lcZ g dt de env xs m1
      | _ => none)
    | none => none
def dLc (di : DA) (g : DGc) (dt : DT) (de : DE) (vs : List Nat) : DA := fun env m => bindR (di env m) fun xs m => if xs.length ≤ sizeLine then okR (lcZ g dt de (wipeE env vs) xs m) else none
def FE : WX := fun _ _ _ _ => False
theorem tLc_of {K : PySem.W.Frag} {W : WX} {di : DA} {g : DGc} {dt : DT} {de : DE} {σ : L2.St} {H : Hp} {Q : VK} (h : rdL K W (dLc di g dt de vs) σ H Q) : tLc (rdI K W di) (rdGc K g vs) (rdT K FE dt) (rdE K FE de) vs σ H Q := by
  obtain ⟨ρ, env, m, r, m', s, e, p⟩ := h
  unfold dLc at e
  unfold bindR at e
  split at e
  · cases e
  · rename_i xs m1 h0
    dsimp only at e
    split at e
    · rename_i hz
      refine ⟨ρ, env, m, _, _, s, h0, fun ρ1 H1 M1 E1 J hJ D hD => ?_⟩
      obtain ⟨ys, h2, rfl⟩ := okR_some e
      have oc := M1.fresh hD
      have oz := M1.freshz hD
      refine ⟨fun i k H' => k + i = xs.length ∧ ∃ ρ' m2 acc accv rest, S K ρ' (wipeE env vs) m2 (L2.wipe σ vs) H' ∧ Ext ρ1 H1 ρ' H' ∧ H' D = some (.lst accv) ∧ D ∉ ρ'.c ∧ D ∉ ρ'.z ∧ acc.length ≤ i ∧ RVs K ρ' H' acc accv ∧ lcZ g dt de (wipeE env vs) (xs.drop i) m2 = some (rest, m') ∧ ys = acc ++ rest,
        ⟨xs.length, rfl, ρ1, m1, [], [], ys, ⟨M1.laid hD, (s.env.mono (E1.trans (ext_new hD))).wipe vs⟩, ext_new hD, upd_same, oc, oz, Nat.le_refl _, rfl, h2, rfl⟩, fun i k H' ⟨hk, ρ', m2, acc, accv, rest, s', E', hD', nc, nz, hacc, ra, hl, hy⟩ => ?_⟩
      obtain ⟨j1, j2⟩ := hJ i ρ' m2 H' E' s'.mem
      cases k with
      | zero =>
        refine .inl ⟨j2 (by omega), ?_⟩
        rw [List.drop_of_length_le (by omega)] at hl
        cases hl
        refine p ρ' H' s'.mem (E1.trans E') _ ⟨D, accv, rfl, ⟨nc, nz, E1.none hD⟩, hD', by rw [← ra.length]; omega, ?_⟩
        rw [hy, List.append_nil]
        exact ra
      | succ k =>
        have hi : i < xs.length := by omega
        obtain ⟨j3, j4⟩ := j1 xs[i] (by simp [hi])
        refine .inr ⟨j3, fun H2 => k + (i + 1) = xs.length ∧ ∃ ρ' m2 acc accv rest, S K ρ' (wipeE env vs) m2 (L2.wipe σ vs) H2 ∧ Ext ρ1 H1 ρ' H2 ∧ H2 D = some (.lst accv) ∧ D ∉ ρ'.c ∧ D ∉ ρ'.z ∧ acc.length ≤ i + 1 ∧ RVs K ρ' H2 acc accv ∧ lcZ g dt de (wipeE env vs) (xs.drop (i + 1)) m2 = some (rest, m') ∧ ys = acc ++ rest, fun H2 h2 => ⟨k, Nat.lt_succ_self k, h2⟩, fun v H2 hyl => ?_⟩
        obtain ⟨M2, E2, r2⟩ := j4 v H2 hyl
        rw [List.drop_eq_getElem_cons hi] at hl
        unfold lcZ at hl
        split at hl
        · rename_i env1 hg
          refine ⟨ρ', _, m2, xs[i], env1, s'.to E2 M2, r2, hg, fun σ3 s3 w3 => ⟨w3.trans (wipe_wipe fun _ h => h), ?_⟩⟩
          have hD2 : H2 D = some (.lst accv) := E2.keep D _ hD' nc
          have back : ∀ {ρ4 : Lay} {m4 : Mem} {H4 : Hp}, Ext ρ' H2 ρ4 H4 → RM K ρ4 m4 H4 → S K ρ4 (wipeE env vs) m4 (L2.wipe σ vs) H4 := fun E4 M4 => s'.to (E2.trans E4) M4
          split at hl
          · rename_i m4 ht
            refine goT s3 ht fun ρ4 H4 s4 E4 => ?_
            show rdE K FE de σ3 H4 _
            split at hl
            · rename_i y m5 he
              refine goE s4 he fun ρ5 H5 u s5 E5 ru => ?_
              split at hl
              · rename_i zs m6 hr
                cases hl
                have E45 := E4.trans E5
                have hD5 : H5 D = some (.lst accv) := E45.keep D _ hD2 nc
                have nc5 : D ∉ ρ5.c := E45.out hD2 nc
                have nz5 : D ∉ ρ5.z := E45.outz hD2 nz
                refine ⟨accv, hD5, by rw [← ra.length]; omega, by omega, ρ5, m5, acc ++ [y], accv ++ [u], zs, ?_⟩
                -- the list grows: nobody knows it
                have sb := back E45 s5.mem
                refine ⟨sb.priv nc5 nz5 hD5, ((E'.trans E2).trans E45).priv hD, upd_same, nc5, nz5, by rw [List.length_append]; show acc.length + 1 ≤ _; omega, ?_, hr, by rw [hy, List.append_assoc]; rfl⟩
                exact RVs.priv nc5 nz5 hD5 _ ((ra.mono (E2.trans E45)).append ⟨u, [], rfl, ru, rfl⟩)
              · cases hl
            · cases hl
          · rename_i m4 ht
            refine goT s3 ht fun ρ4 H4 s4 E4 => ?_
            show _ ∧ _
            refine ⟨by omega, ρ4, m4, acc, accv, rest, back E4 s4.mem, (E'.trans E2).trans E4, E4.keep D _ hD2 nc, E4.out hD2 nc, E4.outz hD2 nz, by omega, ra.mono (E2.trans E4), hl, hy⟩
          · cases hl
        · cases hl
    · cases e
  · rename_i c fs m1 h0
    cases e
    exact ⟨ρ, env, m, _, _, s, h0, fun ρ' H' M E dd x => p ρ' H' M E dd x⟩
/-- [e for x in xs if t]: a new list -/
theorem sl_lc {elt tg iter : Expr} {ifs : List Expr} {scope : Scope} {own : List (Str × Nat)} {di : DA} {g : DGc} {dt : DT} {de : DE} (hc : X.calm = true) (hN : X.N.Nodup) (hi : SI X tg iter di) (ok : BlkOk X.N X.env.scope scope own)
    (hg : ∀ (s : Shared) (H : Hp) (C : Addr) (cl : List (Str × Addr)) (fp : List Addr), SGc (X.blk s H scope (compEnvC scope cl C X.env) fp) tg g (own.map (·.2))) (ht : ∀ (s : Shared) (H : Hp) (C : Addr) (cl : List (Str × Addr)) (fp : List Addr), STs (X.blk s H scope (compEnvC scope cl C X.env) fp) ifs dt)
    (he : ∀ (s : Shared) (H : Hp) (C : Addr) (cl : List (Str × Addr)) (fp : List Addr), SE (X.blk s H scope (compEnvC scope cl C X.env) fp) elt de) (hs : ∀ x, foldedSetIterable iter X.env x = pure x := by intro _; rfl) :
    SL X (.ListComp elt [⟨tg, iter, ifs, 0⟩] scope pos) (dLc di g dt de (own.map (·.2))) := ⟨fun W tk =>
  impPE (pe_lc hc hN (hi.run W tk) ok (fun s H C cl fp => (hg s H C cl fp).run) (fun s H C cl fp => (ht s H C cl fp).run FE takesF) (fun s H C cl fp => (he s H C cl fp).run FE takesF) hs) fun σ H Q h => tLc_of h⟩
/-- y = [..] of one line -/
def dAsgL (i : Nat) (cell : Bool) (d : DA) : DS := fun env m => bindS (d env m) env fun xs m => if cell = true then some (.nx (env.set i (some (.obj m.length))), m ++ [.lst xs]) else some (.nx (env.set i (some (.lst xs))), m)
theorem ss_setLc {i : Nat} {y : Str} {py spos : Pos} {cell : Bool} {elt tg iter : Expr} {ifs : List Expr} {scope : Scope} {own : List (Str × Nat)} {di : DA} {g : DGc} {dt : DT} {de : DE} (hc : X.calm = true) (hN : X.N.Nodup) (hy : X.N[i]? = some y) (hyl : X.env.scope.names.lookup y = some .local)
    (hsw : swapsWith (.ListComp elt [⟨tg, iter, ifs, 0⟩] scope pos) (some (.Name y py)) spos.line X.env = pure true) (hi : SI X tg iter di) (ok : BlkOk X.N X.env.scope scope own)
    (hg : ∀ (s : Shared) (H : Hp) (C : Addr) (cl : List (Str × Addr)) (fp : List Addr), SGc (X.blk s H scope (compEnvC scope cl C X.env) fp) tg g (own.map (·.2))) (ht : ∀ (s : Shared) (H : Hp) (C : Addr) (cl : List (Str × Addr)) (fp : List Addr), STs (X.blk s H scope (compEnvC scope cl C X.env) fp) ifs dt)
    (he : ∀ (s : Shared) (H : Hp) (C : Addr) (cl : List (Str × Addr)) (fp : List Addr), SE (X.blk s H scope (compEnvC scope cl C X.env) fp) elt de) (hs : ∀ x, foldedSetIterable iter X.env x = pure x := by intro _; rfl) :
    SS X (.Assign [.Name y py] (.ListComp elt [⟨tg, iter, ifs, 0⟩] scope pos) spos) (dAsgL i cell (dLc di g dt de (own.map (·.2)))) := ⟨fun W tk =>
  impPS (ps_setLc hc hN hy hyl hsw (hi.run W tk) ok (fun s H C cl fp => (hg s H C cl fp).run) (fun s H C cl fp => (ht s H C cl fp).run FE takesF) (fun s H C cl fp => (he s H C cl fp).run FE takesF) hs) fun D σ H ⟨ρ, env, m, f, m', s, e, p⟩ => by
    refine tLc_of (W := W) (g := g) (dt := dt) (de := de) ?_
    unfold dAsgL bindS at e
    split at e
    · cases e
    · rename_i xs m1 h0
      refine goL s h0 fun ρ' H' a vs s' E w h3 h4 r => ?_
      show D.nx (σ.set i (some (.ref a))) H'
      cases cell with
      | true =>
        dsimp only at e
        rw [if_pos rfl] at e
        cases e
        have s2 := s'.cel (c := .lst xs) w.c w.z h3 rfl ⟨vs, h3, r⟩
        exact p _ H' s2.mem (E.toCel w) _ (s2.env.set ⟨a, rfl, by
          show (ρ'.c ++ [a])[m1.length]? = some a
          rw [← s'.mem.len]
          simp⟩)
      | false =>
        dsimp only at e
        rw [if_neg (by decide)] at e
        cases e
        have s2 := s'.frz w.c h3
        exact p _ H' s2.mem (E.toFrz w) _ (s2.env.set ⟨a, vs, rfl, ⟨mem_frz.mpr (.inr rfl), w.c⟩, h3, r.frz w.c⟩)
    · rename_i c fs m1 h0
      cases e
      exact exL s h0 fun ρ' H' dd s' E r => p ρ' H' s'.mem E σ s'.env dd r⟩
end
end Z
namespace Z
open PySem PySem.Spec PyProof.Rows L2
variable [Kd]
/-! ### built-ins by values -/
abbrev FB := List Vl → Mem → Option (Vl × Mem)
def orB (f g : FB) : FB := fun xs m => match f xs m with
  | some r => some r
  | none => g xs m
def SCF (K : PySem.W.Frag) (f : FB) (r : List V → Hp → VK → Prop) : Prop := ∀ (ρ : Lay) (m : Mem) (H : Hp) (xs : List Vl) (vs : List V) (z : Vl) (m' : Mem) (Q : VK), RM K ρ m H → RVs K ρ H xs vs → f xs m = some (z, m') →
  (∀ ρ' H' w, RM K ρ' m' H' → Ext ρ H ρ' H' → RV K ρ' H' z w → Q w H') → r vs H Q
def dB (f : FB) (d : DA) : DE := fun env m => bindR (d env m) fun xs m => okR (f xs m)
section
variable {X : Cx} {x : Str} {p pos apos : Pos} {e o : Expr} {es : List Expr} {d : DA} {de : DE} {id T : String} {r r' : List V → Hp → VK → Prop} {f g : FB} {name : Str}
theorem scf_or {K : PySem.W.Frag} (h : SCF K f r) (h' : SCF K g r') : SCF K (orB f g) (fun xs H Q => r xs H Q ∨ r' xs H Q) := fun ρ m H xs vs z m' Q M a e k => by
  unfold orB at e
  split at e
  · rename_i q hq
    cases e
    exact .inl (h ρ m H xs vs z m' Q M a hq k)
  · exact .inr (h' ρ m H xs vs z m' Q M a e k)
theorem tCB_of {W : WX} {K : PySem.W.Frag} (hf : SCF K f r) {σ : L2.St} {H : Hp} {Q : VK} (h : rdE K W (dB f d) σ H Q) : tCB r (rdA K W d) σ H Q := by
  obtain ⟨ρ, env, m, z, m', s, e, p⟩ := h
  exact bindA s e p fun xs m1 ρ1 H1 vs s1 E1 r1 e1 p1 => by
    obtain ⟨w, h1, rfl⟩ := okR_some e1
    exact hf ρ1 m1 H1 xs vs w m' Q s1.mem r1 h1 fun ρ' H' u M E r => p1 ρ' H' M E u r
theorem se_callB (hc : CallR X (.builtin id) r) (hf : SCF X.K f r) (hg : Gl X x) (hm : X.mg x = none) (hv : bootBuiltins x = some (.builtin id)) (ha : SA X (e :: es) d) (hn : x ≠ "__name__" := by decide) (hdb : (x == ("__debug__" : Str)) = false := by decide)
    (he : starEach (e :: es) X.env = (false, eval e X.env) :: starEach es X.env := by rfl) (hpl : (backTo pos (starEach es X.env)).any (·.1) = false := by rfl) : SE X (.Call (.Name x p) (e :: es) [] pos) (dB f d) := ⟨fun W tk =>
  impPE (pe_callB hc hg hm hv (ha.run W tk) hn hdb he hpl) fun σ H Q h => tCB_of hf h⟩
theorem se_callTy (hc : CallR X (.type T) r) (hf : SCF X.K f r) (hg : Gl X x) (hm : X.mg x = none) (hv : bootBuiltins x = some (.type T)) (ha : SA X (e :: es) d) (hn : x ≠ "__name__" := by decide) (hdb : (x == ("__debug__" : Str)) = false := by decide)
    (he : starEach (e :: es) X.env = (false, eval e X.env) :: starEach es X.env := by rfl) (hpl : (backTo pos (starEach es X.env)).any (·.1) = false := by rfl) : SE X (.Call (.Name x p) (e :: es) [] pos) (dB f d) := ⟨fun W tk =>
  impPE (pe_callTy hc hg hm hv (ha.run W tk) hn hdb he hpl) fun σ H Q h => tCB_of hf h⟩
/-! the built-ins -/
def lenF : FB := fun xs m => match xs with
  | [.str z] => if z.length ≤ sizeLine then some (.int z.length, m) else none
  | [x] => (match seqD m x with
    | some ys => some (.int ys.length, m)
    | none => none)
  | _ => none
theorem scf_len {K : PySem.W.Frag} : SCF K lenF (fun xs H Q => (∃ p ys, xs = [.ref p] ∧ (SqL K H p ys ∨ SqT K H p ys) ∧ Q (.int ys.length) H) ∨ ∃ z, xs = [.str z] ∧ z.length ≤ sizeLine ∧ Q (.int z.length) H) := fun ρ m H xs vs z m' Q M a e k => by
  unfold lenF at e
  split at e
  · rename_i t
    split at e
    · rename_i c
      cases e
      obtain ⟨v, s, rfl, h1, h2⟩ := a
      subst h2
      exact .inr ⟨t, by rw [show v = V.str t from h1], c, k ρ H _ M .refl rfl⟩
    · cases e
  · split at e
    · rename_i ys hy
      cases e
      obtain ⟨v, s, rfl, h1, h2⟩ := a
      subst h2
      obtain ⟨q, ws, rfl, h3, h4⟩ := seqD_ok M h1 hy
      exact .inl ⟨q, ws, rfl, h3, k ρ H _ M .refl (by rw [h4.length]; rfl)⟩
    · cases e
  · cases e
theorem se_len (hg : Gl X "len") (hm : X.mg "len" = none) (ha : SA X (e :: es) d) (he : starEach (e :: es) X.env = (false, eval e X.env) :: starEach es X.env := by rfl) (hpl : (backTo pos (starEach es X.env)).any (·.1) = false := by rfl) :
    SE X (.Call (.Name "len" p) (e :: es) [] pos) (dB lenF d) := se_callB (CallR.or call_len_seq call_len_str) scf_len hg hm PySem.boot_len ha (by decide) (by decide) he hpl
def absF : FB := fun xs m => match xs with
  | [.int i] => some (.int (if i < 0 then -i else i), m)
  | _ => none
theorem scf_abs {K : PySem.W.Frag} : SCF K absF (fun xs H Q => ∃ i, xs = [.int i] ∧ Q (.int (if i < 0 then -i else i)) H) := fun ρ m H xs vs z m' Q M a e k => by
  unfold absF at e
  split at e
  · rename_i i
    cases e
    obtain ⟨v, s, rfl, h1, h2⟩ := a
    subst h2
    exact ⟨i, by rw [show v = V.int i from h1], k ρ H _ M .refl rfl⟩
  · cases e
theorem se_abs (hg : Gl X "abs") (hm : X.mg "abs" = none) (ha : SA X (e :: es) d) (he : starEach (e :: es) X.env = (false, eval e X.env) :: starEach es X.env := by rfl) (hpl : (backTo pos (starEach es X.env)).any (·.1) = false := by rfl) :
    SE X (.Call (.Name "abs" p) (e :: es) [] pos) (dB absF d) := se_callB call_abs scf_abs hg hm (by decide +kernel) ha (by decide) (by decide) he hpl
def two (g : Int → Int → Int) : FB := fun xs m => match xs with
  | [.int i, .int j] => some (.int (g i j), m)
  | _ => none
theorem scf_two {K : PySem.W.Frag} {g : Int → Int → Int} : SCF K (two g) (fun xs H Q => ∃ i j, xs = [.int i, .int j] ∧ Q (.int (g i j)) H) := fun ρ m H xs vs z m' Q M a e k => by
  unfold two at e
  split at e
  · rename_i i j
    cases e
    obtain ⟨v, s, rfl, h1, v2, s2, rfl, h2, h3⟩ := a
    subst h3
    exact ⟨i, j, by rw [show v = V.int i from h1, show v2 = V.int j from h2], k ρ H _ M .refl rfl⟩
  · cases e
def maxZ (i j : Int) : Int := if j > i then j else i
def minZ (i j : Int) : Int := if j < i then j else i
theorem se_max2 (hc : X.calm = true) (hg : Gl X "max") (hm : X.mg "max" = none) (ha : SA X (e :: es) d) (he : starEach (e :: es) X.env = (false, eval e X.env) :: starEach es X.env := by rfl) (hpl : (backTo pos (starEach es X.env)).any (·.1) = false := by rfl) :
    SE X (.Call (.Name "max" p) (e :: es) [] pos) (dB (two maxZ) d) := se_callB (call_max2 hc) scf_two hg hm (by decide +kernel) ha (by decide) (by decide) he hpl
theorem se_min2 (hc : X.calm = true) (hg : Gl X "min") (hm : X.mg "min" = none) (ha : SA X (e :: es) d) (he : starEach (e :: es) X.env = (false, eval e X.env) :: starEach es X.env := by rfl) (hpl : (backTo pos (starEach es X.env)).any (·.1) = false := by rfl) :
    SE X (.Call (.Name "min" p) (e :: es) [] pos) (dB (two minZ) d) := se_callB (call_min2 hc) scf_two hg hm (by decide +kernel) ha (by decide) (by decide) he hpl
def intFn : FB := fun xs m => match xs with
  | [.int i] => some (.int i, m)
  | [.bl b] => some (.int (if b then 1 else 0), m)
  | _ => none
theorem scf_intFn {K : PySem.W.Frag} : SCF K intFn (fun xs H Q => (∃ i, xs = [.int i] ∧ Q (.int i) H) ∨ ∃ k, xs = [.bl k] ∧ Q (.int (if k then 1 else 0)) H) := fun ρ m H xs vs z m' Q M a e k => by
  unfold intFn at e
  split at e
  · rename_i i
    cases e
    obtain ⟨v, s, rfl, h1, h2⟩ := a
    subst h2
    exact .inl ⟨i, by rw [show v = V.int i from h1], k ρ H _ M .refl rfl⟩
  · rename_i i
    cases e
    obtain ⟨v, s, rfl, h1, h2⟩ := a
    subst h2
    exact .inr ⟨i, by rw [show v = V.bl i from h1], k ρ H _ M .refl rfl⟩
  · cases e
theorem se_int1 (hg : Gl X "int") (hm : X.mg "int" = none) (ha : SA X (e :: es) d) (he : starEach (e :: es) X.env = (false, eval e X.env) :: starEach es X.env := by rfl) (hpl : (backTo pos (starEach es X.env)).any (·.1) = false := by rfl) :
    SE X (.Call (.Name "int" p) (e :: es) [] pos) (dB intFn d) := se_callTy call_int1 scf_intFn hg hm (by decide +kernel) ha (by decide) (by decide) he hpl
/-- list(x): a new list -/
def listH (m : Mem) (xs : List Vl) : Option (R (List Vl) × Mem) := match xs with
  | [x] => (match seqD m x with
    | some ys => if ys.length ≤ sizeLine then some (.ok ys, m) else none
    | none => none)
  | _ => none
def dListOf (d : DA) : DA := fun env m => bindR (d env m) fun xs m => listH m xs
theorem sl_list (hg : Gl X "list") (hm : X.mg "list" = none) (ha : SA X (e :: es) d) (he : starEach (e :: es) X.env = (false, eval e X.env) :: starEach es X.env := by rfl) (hpl : (backTo pos (starEach es X.env)).any (·.1) = false := by rfl) :
    SL X (.Call (.Name "list" p) (e :: es) [] pos) (dListOf d) := ⟨fun W tk => impPE (pe_callTy call_list_of hg hm (by decide +kernel) (ha.run W tk) (by decide) (by decide) he hpl) fun σ H Q ⟨ρ, env, m, z, m', s, e, p⟩ => by
    unfold dListOf bindR at e
    split at e
    · cases e
    · rename_i xs m1 h0
      refine goA s h0 fun ρ' H' vs s' E r => ?_
      dsimp only at e
      unfold listH at e
      split at e
      · rename_i x
        split at e
        · rename_i ys hy
          split at e
          · rename_i hz
            cases e
            obtain ⟨v, t, rfl, h1, h2⟩ := r
            subst h2
            obtain ⟨q, ws, rfl, h3, h4⟩ := seqD_ok s'.mem h1 hy
            exact ⟨q, ws, rfl, h3, fun l hl => p ρ' _ (s'.mem.laid hl) (E.trans (ext_new hl)) _ ⟨l, ws, rfl, ⟨s'.mem.fresh hl, s'.mem.freshz hl, E.none hl⟩, upd_same, by rw [← h4.length]; exact hz, h4.mono (ext_new hl)⟩⟩
          · cases e
        · cases e
      · cases e
    · rename_i c fs m1 h0
      cases e
      exact exA s h0 fun ρ' H' dd s' E r => p ρ' H' s'.mem E dd r⟩
/-- tuple(x) -/
def tupleF : FB := fun xs m => match xs with
  | [x] => (match seqD m x with
    | some ys => some (.tup ys, m)
    | none => none)
  | _ => none
theorem scf_tuple {K : PySem.W.Frag} : SCF K tupleF (fun xs H Q => ∃ p ys, xs = [.ref p] ∧ ((SqL K H p ys ∧ ∀ l, H l = none → Q (.ref l) (upd H l (.tup ys))) ∨ (SqT K H p ys ∧ Q (.ref p) H))) := fun ρ m H xs vs z m' Q M a e k => by
  unfold tupleF at e
  split at e
  · rename_i x
    split at e
    · rename_i ys hy
      cases e
      obtain ⟨v, s, rfl, h1, h2⟩ := a
      subst h2
      by_cases ht : ∃ zs, x = .tup zs
      · obtain ⟨zs, rfl⟩ := ht
        cases hy
        obtain ⟨q, ws, rfl, h3, h4⟩ := h1
        exact ⟨q, ws, rfl, .inr ⟨h3.sq, k ρ H _ M .refl ⟨q, ws, rfl, h3, h4⟩⟩⟩
      · have hl : lisD m x = some ys := by
          cases x <;> first | exact hy | exact absurd ⟨_, rfl⟩ ht
        obtain ⟨q, ws, rfl, h3, h4⟩ := lisD_ok M h1 hl
        exact ⟨q, ws, rfl, .inl ⟨h3, fun l hn => k ρ _ _ (M.laid hn) (ext_new hn) (new_tup M hn h4)⟩⟩
    · cases e
  · cases e
theorem se_tuple (hg : Gl X "tuple") (hm : X.mg "tuple" = none) (ha : SA X (e :: es) d) (he : starEach (e :: es) X.env = (false, eval e X.env) :: starEach es X.env := by rfl) (hpl : (backTo pos (starEach es X.env)).any (·.1) = false := by rfl) :
    SE X (.Call (.Name "tuple" p) (e :: es) [] pos) (dB tupleF d) := se_callTy call_tuple_of scf_tuple hg hm (by decide +kernel) ha (by decide) (by decide) he hpl
/-- all, any of a list of truth values -/
def blsL : List Vl → Option (List Bool)
  | [] => some []
  | .bl b :: xs => (match blsL xs with
    | some bs => some (b :: bs)
    | none => none)
  | _ :: _ => none
theorem blsL_ok {K : PySem.W.Frag} {ρ : Lay} {H : Hp} : ∀ {xs : List Vl} {vs : List V} {bs : List Bool}, RVs K ρ H xs vs → blsL xs = some bs → vs = bs.map V.bl
  | [], _, _, h, e => by
    cases e
    exact h
  | x :: xs, _, _, ⟨v, r, h1, h2, h3⟩, e => by
    cases x with
    | bl b =>
      unfold blsL at e
      split at e
      · rename_i bs hb
        cases e
        rw [h1, blsL_ok h3 hb, show v = V.bl b from h2] <;> rfl
      · cases e
    | _ => cases e
def quant (g : List Bool → Bool) : FB := fun xs m => match xs with
  | [x] => (match lisD m x with
    | some ys => (match blsL ys with
      | some bs => some (.bl (g bs), m)
      | none => none)
    | none => none)
  | _ => none
theorem scf_quant {K : PySem.W.Frag} {g : List Bool → Bool} : SCF K (quant g) (fun vs H Q => ∃ (a : Addr) (bs : List Bool), vs = [V.ref a] ∧ SqL K H a (bs.map V.bl) ∧ Q (.bl (g bs)) H) := fun ρ m H xs vs z m' Q M a e k => by
  unfold quant at e
  split at e
  · split at e
    · rename_i ys hy
      split at e
      · rename_i bs hb
        cases e
        obtain ⟨v, s, rfl, h1, h2⟩ := a
        subst h2
        obtain ⟨q, ws, rfl, h3, h4⟩ := lisD_ok M h1 hy
        exact ⟨q, bs, rfl, by rw [← blsL_ok h4 hb]; exact h3, k ρ H _ M .refl rfl⟩
      · cases e
    · cases e
  · cases e
theorem se_all (hc : X.calm = true) (hg : Gl X "all") (hm : X.mg "all" = none) (ha : SA X (e :: es) d) (he : starEach (e :: es) X.env = (false, eval e X.env) :: starEach es X.env := by rfl) (hpl : (backTo pos (starEach es X.env)).any (·.1) = false := by rfl) :
    SE X (.Call (.Name "all" p) (e :: es) [] pos) (dB (quant fun bs => bs.all fun b => b) d) := se_callB (cr_all hc) scf_quant hg hm (by decide +kernel) ha (by decide) (by decide) he hpl
theorem se_any (hc : X.calm = true) (hg : Gl X "any") (hm : X.mg "any" = none) (ha : SA X (e :: es) d) (he : starEach (e :: es) X.env = (false, eval e X.env) :: starEach es X.env := by rfl) (hpl : (backTo pos (starEach es X.env)).any (·.1) = false := by rfl) :
    SE X (.Call (.Name "any" p) (e :: es) [] pos) (dB (quant fun bs => bs.any fun b => b) d) := se_callB (cr_any hc) scf_quant hg hm (by decide +kernel) ha (by decide) (by decide) he hpl
/-! ### methods of built-in types -/
abbrev FM := Vl → List Vl → Mem → Option (Vl × Mem)
def SMF (K : PySem.W.Frag) (f : FM) (T : String) (r : V → List V → Hp → VK → Prop) : Prop := ∀ (ρ : Lay) (m : Mem) (H : Hp) (x : Vl) (xs : List Vl) (v : V) (vs : List V) (z : Vl) (m' : Mem) (Q : VK), RM K ρ m H → RV K ρ H x v → RVs K ρ H xs vs → f x xs m = some (z, m') →
  (∀ ρ' H' w, RM K ρ' m' H' → Ext ρ H ρ' H' → RV K ρ' H' z w → Q w H') → r v vs H Q
/-- the receiver's kind, told before the arguments -/
def tyM (T : String) (m : Mem) : Vl → Bool
  | .str _ => decide (T = "str")
  | .lst _ => decide (T = "list")
  | .obj n => (match m[n]? with
    | some (.lst _) => decide (T = "list")
    | some (.dic _) => decide (T = "dict")
    | some (.dit _) => decide (T = "dict")
    | _ => false)
  | .dic _ => decide (T = "dict")
  | .dit _ => decide (T = "dict")
  | _ => false
theorem tyM_ok {K : PySem.W.Frag} {ρ : Lay} {m : Mem} {H : Hp} {x : Vl} {v : V} (M : RM K ρ m H) (a : RV K ρ H x v) (h : tyM T m x = true) : tyV K T v H := by
  cases x with
  | str z =>
    rw [show v = V.str z from a]
    show T = "str"
    exact of_decide_eq_true h
  | lst xs =>
    obtain ⟨q, vs, rfl, _, h1, _⟩ := a
    exact .inl ⟨of_decide_eq_true h, vs, SqL.of h1⟩
  | dic xs =>
    obtain ⟨q, vs, rfl, _, h1, _⟩ := a
    exact .inr (.inr (.inl ⟨of_decide_eq_true h, .inl ⟨vs, h1⟩⟩))
  | dit xs =>
    obtain ⟨q, vs, rfl, _, h1, _⟩ := a
    exact .inr (.inr (.inl ⟨of_decide_eq_true h, .inr ⟨vs, h1⟩⟩))
  | obj n =>
    obtain ⟨q, rfl, hq⟩ := a
    have h' : (match m[n]? with
      | some (.lst _) => decide (T = "list")
      | some (.dic _) => decide (T = "dict")
      | some (.dit _) => decide (T = "dict")
      | _ => false) = true := h
    split at h'
    · rename_i xs hx
      obtain ⟨vs, h1, _⟩ := M.at_ _ _ _ hx hq
      exact .inl ⟨of_decide_eq_true h', vs, SqL.of h1⟩
    · rename_i xs hx
      obtain ⟨vs, h1, _⟩ := M.at_ _ _ _ hx hq
      exact .inr (.inr (.inl ⟨of_decide_eq_true h', .inl ⟨vs, h1⟩⟩))
    · rename_i xs hx
      obtain ⟨vs, h1, _⟩ := M.at_ _ _ _ hx hq
      exact .inr (.inr (.inl ⟨of_decide_eq_true h', .inr ⟨vs, h1⟩⟩))
    · cases h'
  | _ => cases h
def dM (T : String) (f : FM) (de : DE) (d : DA) : DE := fun env m => bindR (de env m) fun x m => if tyM T m x = true then bindR (d env m) fun xs m => okR (f x xs m) else none
theorem se_bm {rm : V → List V → Hp → VK → Prop} {fm : FM} (pa : PlainAttrs T) (slot : Slot T name id) (hty : typeOf (.builtin id) = pure (.type "method_descriptor")) (hm : MtR X id rm) (hf : SMF X.K fm T rm) (ho : SE X o de) (ha : SA X (e :: es) d)
    (hbase : attributeBase o name X.env (eval o X.env) = eval o X.env := by rfl)
    (hfew : ((backTo pos (starEach (e :: es) X.env)).all (fun x => !x.1) && (backToKw pos (keywordEach [] X.env)).all (fun x => x.1.isSome)
      && decide ((e :: es).length + ([] : List Keyword).length + (if ([] : List Keyword).isEmpty then 0 else 1) < 30)) = true := by rfl)
    (hline : (apos.endLine == pos.line) = true := by rfl) (hs : starEach (e :: es) X.env = (false, eval e X.env) :: starEach es X.env := by rfl) (hplain : (backTo pos (starEach es X.env)).any (·.1) = false := by rfl) :
    SE X (.Call (.Attribute o name apos) (e :: es) [] pos) (dM T fm de d) := ⟨fun W tk =>
  impPE (pe_bm pa slot hty hm (ho.run W tk) (ha.run W tk) hbase hfew hline hs hplain) fun σ H Q ⟨ρ, env, m, z, m', s, e, p⟩ => bindE s e p fun x m1 ρ1 H1 v s1 E1 r1 e1 p1 => by
    split at e1
    · rename_i ht
      exact ⟨tyM_ok s1.mem r1 ht, bindA s1 e1 p1 fun xs m2 ρ2 H2 vs s2 E2 r2 e2 p2 => by
        obtain ⟨w, h1, rfl⟩ := okR_some e2
        exact hf ρ2 m2 H2 x xs v vs w m' Q s2.mem (r1.mono E2) r2 h1 fun ρ' H' u M E r => p2 ρ' H' M E u r⟩
    · cases e1⟩
theorem se_bm0 {rm : V → List V → Hp → VK → Prop} {fm : FM} (pa : PlainAttrs T) (slot : Slot T name id) (hty : typeOf (.builtin id) = pure (.type "method_descriptor")) (hm : MtR X id rm) (hf : SMF X.K fm T rm) (ho : SE X o de)
    (hbase : attributeBase o name X.env (eval o X.env) = eval o X.env := by rfl) (hline : (apos.endLine == pos.line) = true := by rfl) : SE X (.Call (.Attribute o name apos) [] [] pos) (dM T fm de dNone) := ⟨fun W tk =>
  impPE (pe_bm0 pa slot hty hm (ho.run W tk) hbase hline) fun σ H Q ⟨ρ, env, m, z, m', s, e, p⟩ => bindE s e p fun x m1 ρ1 H1 v s1 E1 r1 e1 p1 => by
    split at e1
    · rename_i ht
      unfold dNone bindR at e1
      obtain ⟨w, h1, rfl⟩ := okR_some e1
      exact ⟨tyM_ok s1.mem r1 ht, hf ρ1 m1 H1 x [] v [] w m' Q s1.mem r1 rfl h1 fun ρ' H' u M E r => p1 ρ' H' M E u r⟩
    · cases e1⟩
theorem put_lst {K : PySem.W.Frag} {ρ : Lay} {m : Mem} {H : Hp} {n : Nat} {q : Addr} {xs : List Vl} {vs : List V} (M : RM K ρ m H) (hq : ρ.c[n]? = some q) (r : RVs K ρ H xs vs) : RM K ρ (m.set n (.lst xs)) (upd H q (.lst vs)) ∧ Ext ρ H ρ (upd H q (.lst vs)) :=
  have E : Ext ρ H ρ (upd H q (.lst vs)) := ext_set (List.mem_of_getElem? hq)
  ⟨M.put hq ⟨vs, upd_same, r.mono E⟩, E⟩
/-- xs.append(y) and others that change a list -/
def lstM (h : List Vl → List Vl → Option (Vl × List Vl)) : FM := fun x xs m => match x with
  | .obj n => (match m[n]? with
    | some (.lst ys) => (match h ys xs with
      | some (z, zs) => some (z, m.set n (.lst zs))
      | none => none)
    | _ => none)
  | _ => none
theorem smf_lst {K : PySem.W.Frag} {T : String} {h : List Vl → List Vl → Option (Vl × List Vl)} {rm : V → List V → Hp → VK → Prop}
    (hr : ∀ (ρ : Lay) (H : Hp) (a : Addr) (ys xs zs : List Vl) (us vs : List V) (z : Vl) (Q : VK), H a = some (.lst us) → RVs K ρ H ys us → RVs K ρ H xs vs → h ys xs = some (z, zs) → (∀ w ws, RV K ρ H z w → RVs K ρ H zs ws → Q w (upd H a (.lst ws))) → rm (.ref a) vs H Q) : SMF K (lstM h) T rm := fun ρ m H x xs v vs z m' Q M a b e k => by
  unfold lstM at e
  split at e
  · rename_i n
    split at e
    · rename_i ys hy
      split at e
      · rename_i w zs hz
        cases e
        obtain ⟨q, rfl, hq⟩ := a
        obtain ⟨us, h1, h2⟩ := M.at_ _ _ _ hy hq
        refine hr ρ H q ys xs zs us vs z Q h1 h2 b hz fun w ws rw_ rz => ?_
        obtain ⟨M', E'⟩ := put_lst M hq rz
        exact k ρ _ _ M' E' (rw_.mono E')
      · cases e
    · cases e
  · cases e
def appH (ys xs : List Vl) : Option (Vl × List Vl) := match xs with
  | [y] => if ys.length < sizeLine then some (.non, ys ++ [y]) else none
  | _ => none
theorem smf_app {K : PySem.W.Frag} : SMF K (lstM appH) "list" rAppend := smf_lst fun ρ H a ys xs zs us vs z Q h1 h2 b e k => by
  unfold appH at e
  split at e
  · rename_i y
    split at e
    · rename_i c
      cases e
      obtain ⟨v, s, rfl, r1, r2⟩ := b
      subst r2
      exact ⟨a, us, v, rfl, rfl, h1, by rw [← h2.length]; exact c, k _ _ rfl (h2.append ⟨v, [], rfl, r1, rfl⟩)⟩
    · cases e
  · cases e
theorem se_append (ho : SE X o de) (ha : SA X [e] d)
    (hbase : attributeBase o "append" X.env (eval o X.env) = eval o X.env := by rfl)
    (hfew : ((backTo pos (starEach [e] X.env)).all (fun x => !x.1) && (backToKw pos (keywordEach [] X.env)).all (fun x => x.1.isSome)
      && decide ([e].length + ([] : List Keyword).length + (if ([] : List Keyword).isEmpty then 0 else 1) < 30)) = true := by rfl)
    (hline : (apos.endLine == pos.line) = true := by rfl) (hs : starEach [e] X.env = (false, eval e X.env) :: starEach [] X.env := by rfl) (hplain : (backTo pos (starEach [] X.env)).any (·.1) = false := by rfl) :
    SE X (.Call (.Attribute o "append" apos) [e] [] pos) (dM "list" (lstM appH) de d) := se_bm PySem.F.plainAttrs_list PySem.F.slot_list_append PySem.F.type_list_append mt_append smf_app ho ha hbase hfew hline hs hplain
def extH (m : Mem) (ys xs : List Vl) : Option (Vl × List Vl) := none
def popH (ys xs : List Vl) : Option (Vl × List Vl) := match xs with
  | [.int i] => if (decide (-(2 ^ 63) ≤ i) && decide (i < 2 ^ 63)) = true then (match seqIndex? i ys.length with
    | some k => (match ys[k]? with
      | some y => some (y, ys.eraseIdx k)
      | none => none)
    | none => none) else none
  | _ => none
theorem smf_popAt {K : PySem.W.Frag} : SMF K (lstM popH) "list" rPopAt := smf_lst fun ρ H a ys xs zs us vs z Q h1 h2 b e k => by
  unfold popH at e
  split at e
  · rename_i i
    split at e
    · rename_i c
      split at e
      · rename_i j hj
        split at e
        · rename_i y hy
          cases e
          rw [Bool.and_eq_true, decide_eq_true_eq, decide_eq_true_eq] at c
          obtain ⟨v, s, rfl, r1, r2⟩ := b
          subst r2
          obtain ⟨w, h3, h4⟩ := h2.get hy
          exact ⟨a, us, i, j, w, rfl, by rw [show v = V.int i from r1], h1, c.1, c.2, by rw [← h2.length]; exact hj, h3, k _ _ h4 (h2.eraseIdx j)⟩
        · cases e
      · cases e
    · cases e
  · cases e
theorem se_popAt (ho : SE X o de) (ha : SA X [e] d)
    (hbase : attributeBase o "pop" X.env (eval o X.env) = eval o X.env := by rfl)
    (hfew : ((backTo pos (starEach [e] X.env)).all (fun x => !x.1) && (backToKw pos (keywordEach [] X.env)).all (fun x => x.1.isSome)
      && decide ([e].length + ([] : List Keyword).length + (if ([] : List Keyword).isEmpty then 0 else 1) < 30)) = true := by rfl)
    (hline : (apos.endLine == pos.line) = true := by rfl) (hs : starEach [e] X.env = (false, eval e X.env) :: starEach [] X.env := by rfl) (hplain : (backTo pos (starEach [] X.env)).any (·.1) = false := by rfl) :
    SE X (.Call (.Attribute o "pop" apos) [e] [] pos) (dM "list" (lstM popH) de d) := se_bm PySem.F.plainAttrs_list PySem.F.slot_list_pop PySem.F.type_list_pop mt_popAt smf_popAt ho ha hbase hfew hline hs hplain
def pop0H (ys xs : List Vl) : Option (Vl × List Vl) := match xs with
  | [] => (match ys[ys.length - 1]? with
    | some y => some (y, ys.dropLast)
    | none => none)
  | _ => none
theorem RVs.dropLast {K : PySem.W.Frag} {ρ : Lay} {H : Hp} {xs : List Vl} {vs : List V} (r : RVs K ρ H xs vs) : RVs K ρ H xs.dropLast vs.dropLast := by
  rw [List.dropLast_eq_take, List.dropLast_eq_take, r.length]
  exact r.take _
theorem smf_pop {K : PySem.W.Frag} : SMF K (lstM pop0H) "list" rPop := smf_lst fun ρ H a ys xs zs us vs z Q h1 h2 b e k => by
  unfold pop0H at e
  split at e
  · split at e
    · rename_i y hy
      cases e
      rw [show vs = [] from b]
      obtain ⟨w, h3, h4⟩ := h2.get hy
      exact ⟨a, us, w, rfl, rfl, h1, by rw [← h2.length]; exact h3, k _ _ h4 h2.dropLast⟩
    · cases e
  · cases e
theorem se_pop (ho : SE X o de) (hbase : attributeBase o "pop" X.env (eval o X.env) = eval o X.env := by rfl) (hline : (apos.endLine == pos.line) = true := by rfl) :
    SE X (.Call (.Attribute o "pop" apos) [] [] pos) (dM "list" (lstM pop0H) de dNone) := se_bm0 PySem.F.plainAttrs_list PySem.F.slot_list_pop PySem.F.type_list_pop mt_pop smf_pop ho hbase hline
def revH (ys xs : List Vl) : Option (Vl × List Vl) := match xs with
  | [] => some (.non, ys.reverse)
  | _ => none
theorem smf_rev {K : PySem.W.Frag} : SMF K (lstM revH) "list" rReverse := smf_lst fun ρ H a ys xs zs us vs z Q h1 h2 b e k => by
  unfold revH at e
  split at e
  · cases e
    rw [show vs = [] from b]
    exact ⟨a, us, rfl, rfl, h1, k _ _ rfl h2.reverse⟩
  · cases e
theorem se_reverse (ho : SE X o de) (hbase : attributeBase o "reverse" X.env (eval o X.env) = eval o X.env := by rfl) (hline : (apos.endLine == pos.line) = true := by rfl) :
    SE X (.Call (.Attribute o "reverse" apos) [] [] pos) (dM "list" (lstM revH) de dNone) := se_bm0 PySem.F.plainAttrs_list PySem.F.slot_list_reverse PySem.F.type_list_reverse mt_reverse smf_rev ho hbase hline
def clrH (ys xs : List Vl) : Option (Vl × List Vl) := match xs with
  | [] => some (.non, [])
  | _ => none
theorem smf_clr {K : PySem.W.Frag} : SMF K (lstM clrH) "list" rClear := smf_lst fun ρ H a ys xs zs us vs z Q h1 h2 b e k => by
  unfold clrH at e
  split at e
  · cases e
    rw [show vs = [] from b]
    exact ⟨a, us, rfl, rfl, h1, k _ _ rfl rfl⟩
  · cases e
/-- xs[i] = y -/
def gSetI (do' di : DE) : DG := fun x env m => match do' env m with
  | some (.ok (.obj n), m1) => (match di env m1 with
    | some (.ok (.int i), m2) => (match m2[n]? with
      | some (.lst ys) => (match ixN ys.length i with
        | some j => some (env, m2.set n (.lst (ys.set j x)))
        | none => none)
      | _ => none)
    | _ => none)
  | _ => none
theorem sg_setI {a b : Expr} {da db : DE} (ho : SE X a da) (hi : SE X b db)
    (ha : ∀ v, assign (.Subscript a b pos) X.env v = (do
      let ov ← holding [v] (eval a X.env)
      let iv ← holding [v, ov] (eval b X.env)
      standAt pos
      holding [v, ov, iv] (setItem ov iv v)
      release [v, ov, iv] []) := by intro _; rfl) : SG X (.Subscript a b pos) (gSetI da db) := ⟨fun W tk => impPG (pg_sub (ho.run W tk) (hi.run W tk) set_list ha) fun v σ H Q ⟨ρ, env, m, x, env', m', s, r, e, p⟩ => by
  unfold gSetI at e
  split at e
  · rename_i n m1 h1
    split at e
    · rename_i i m2 h2
      split at e
      · rename_i ys hy
        split at e
        · rename_i j hj
          cases e
          refine goE s h1 fun ρ1 H1 o1 s1 E1 r1 => goE s1 h2 fun ρ2 H2 i2 s2 E2 r2 => ?_
          obtain ⟨q, rfl, hq⟩ := RV.mono E2 _ r1
          obtain ⟨us, h3, h4⟩ := s2.mem.at_ _ _ _ hy hq
          have hset := h4.set j ((r.mono E1).mono E2)
          obtain ⟨M', E'⟩ := put_lst s2.mem hq hset
          exact ⟨q, us, i, j, rfl, r2, h3, by rw [← h4.length]; exact hj, p ρ2 _ σ (s2.to E' M') ((E1.trans E2).trans E')⟩
        · cases e
      · cases e
    · cases e
  · cases e⟩
end
end Z
namespace Z
open PySem PySem.Spec PyProof.Rows L2
variable [Kd]
/-! ### kinds of values: a built-in type, an own class -/
inductive TD where
  | b (n : String) | c (x : Str)
  deriving DecidableEq
def TD.val (K : PySem.W.Frag) : TD → Value
  | .b n => .type n
  | .c x => .ref (He.ga K x)
def tyD (m : Mem) : Vl → Option TD
  | .non => some (.b "NoneType")
  | .bl _ => some (.b "bool")
  | .int _ => some (.b "int")
  | .str _ => some (.b "str")
  | .tup _ => some (.b "tuple")
  | .lst _ => some (.b "list")
  | .frl _ => some (.b "list")
  | .dic _ => some (.b "dict")
  | .dit _ => some (.b "dict")
  | .ins c _ => some (.c c)
  | .obj n => (match m[n]? with
    | some (.lst _) => some (.b "list")
    | some (.dic _) => some (.b "dict")
    | some (.dit _) => some (.b "dict")
    | some (.ins c _) => some (.c c)
    | _ => none)
  | _ => none
/-- what isinstance and == ask of a class -/
structure InsT (K : PySem.W.Frag) (c : Str) : Prop where
  cl : Cls K (He.ga K c)
  ha : PySem.W.findIn K (.ref (He.ga K c)) "__class__" = some (some (.builtin "object.__class__"))
  hn : PySem.W.specialIn K (.builtin "object.__class__") "__get__" = some (some (.builtin "getset_descriptor.__get__"))
  ht : PySem.W.takesIn K (.builtin "object.__class__") = some true
  hm : PySem.W.mroIn K (He.ga K c) (.type "object") = some true
/-- of all classes whose instances come -/
def InsA (K : PySem.W.Frag) (cs : List Str) : Prop := ∀ c ∈ cs, InsT K c
def tdOk (cs : List Str) : TD → Bool
  | .b _ => true
  | .c x => cs.contains x
theorem tyD_ok {K : PySem.W.Frag} {ρ : Lay} {m : Mem} {H : Hp} {x : Vl} {v : V} {t : TD} {cs : List Str} (hI : InsA K cs) (M : RM K ρ m H) (a : RV K ρ H x v) (h : tyD m x = some t) (hc : tdOk cs t = true) : TyX K H v (t.val K) := by
  cases x with
  | non =>
    cases h
    rw [show v = _ from a]
    exact .base .non
  | bl b =>
    cases h
    rw [show v = _ from a]
    exact .base (.bl b)
  | int b =>
    cases h
    rw [show v = _ from a]
    exact .base (.int b)
  | str b =>
    cases h
    rw [show v = _ from a]
    exact .base (.str b)
  | tup xs =>
    cases h
    obtain ⟨p, vs, rfl, h1, _⟩ := a
    rcases h1 with ⟨_, h1 | ⟨o, h1⟩⟩ | ⟨o, its, n, h1, h2, _⟩
    · exact .base (.tup h1)
    · exact .fTuple h1
    · exact .kTuple h1 h2
  | lst xs =>
    cases h
    obtain ⟨p, vs, rfl, _, h1, _⟩ := a
    exact .base (.lst h1)
  | frl xs =>
    cases h
    obtain ⟨p, vs, rfl, h1, _⟩ := a
    rcases h1 with ⟨_, o, h1⟩ | ⟨o, its, n, h1, h2, _⟩
    · exact .base (.frz h1)
    · exact .kList h1 h2
  | dic xs =>
    cases h
    obtain ⟨p, vs, rfl, _, h1, _⟩ := a
    exact .base (.dK h1)
  | dit xs =>
    cases h
    obtain ⟨p, vs, rfl, _, h1, _⟩ := a
    exact .base (.dT h1)
  | ins c fs =>
    cases h
    obtain ⟨p, dx, vs, rfl, _, h1, _⟩ := a
    have i := hI c (by simpa [tdOk] using hc)
    exact .base (.ins h1 i.cl i.ha i.hn i.ht i.hm)
  | obj n =>
    obtain ⟨p, rfl, hp⟩ := a
    have h' : (match m[n]? with
      | some (.lst _) => some (TD.b "list")
      | some (.dic _) => some (.b "dict")
      | some (.dit _) => some (.b "dict")
      | some (.ins c _) => some (.c c)
      | _ => none) = some t := h
    split at h'
    · rename_i xs hx
      cases h'
      obtain ⟨vs, h1, _⟩ := M.at_ _ _ _ hx hp
      exact .base (.lst h1)
    · rename_i xs hx
      cases h'
      obtain ⟨vs, h1, _⟩ := M.at_ _ _ _ hx hp
      exact .base (.dK h1)
    · rename_i xs hx
      cases h'
      obtain ⟨vs, h1, _⟩ := M.at_ _ _ _ hx hp
      exact .base (.dT h1)
    · rename_i c xs hx
      cases h'
      obtain ⟨dx, vs, h1, _⟩ := M.at_ _ _ _ hx hp
      have i := hI c (by simpa [tdOk] using hc)
      exact .base (.ins h1 i.cl i.ha i.hn i.ht i.hm)
    · cases h'
  | _ => cases h
/-! ### isinstance -/
/-- which kinds are instances of which, as the table says -/
abbrev Kit := TD → TD → Option Bool
def KitOk (K : PySem.W.Frag) (kt : Kit) : Prop := ∀ t u b, kt t u = some b → PySem.W.kitOne K (t.val K) (u.val K) = some b
def clsD : Vl → Option TD
  | .ty n => some (.b n)
  | .glo x => some (.c x)
  | _ => none
theorem clsD_ok {K : PySem.W.Frag} {ρ : Lay} {H : Hp} {x : Vl} {v : V} {t : TD} (a : RV K ρ H x v) (h : clsD x = some t) : ClsV v (t.val K) := by
  cases x with
  | ty n =>
    cases h
    rw [show v = _ from a]
    exact .ty n
  | glo c =>
    cases h
    rw [show v = _ from a]
    exact .own _
  | _ => cases h
def clsDs : List Vl → Option (List TD)
  | [] => some []
  | x :: xs => (match clsD x with
    | some t => (match clsDs xs with
      | some ts => some (t :: ts)
      | none => none)
    | none => none)
theorem clsDs_ok {K : PySem.W.Frag} {ρ : Lay} {H : Hp} : ∀ {xs : List Vl} {vs : List V} {ts : List TD}, RVs K ρ H xs vs → clsDs xs = some ts → Paired ClsV vs (ts.map (TD.val K))
  | [], _, _, h, e => by
    cases e
    rw [show _ = [] from h]
    exact .nil
  | x :: xs, _, _, ⟨v, r, h1, h2, h3⟩, e => by
    unfold clsDs at e
    split at e
    · rename_i t ht
      split at e
      · rename_i ts hts
        cases e
        rw [h1]
        exact .cons (clsD_ok h2 ht) (clsDs_ok h3 hts)
      · cases e
    · cases e
def kitAnyD (kt : Kit) (t : TD) : List TD → Option Bool
  | [] => some false
  | u :: us => (match kt t u with
    | some true => some true
    | some false => kitAnyD kt t us
    | none => none)
theorem kitAnyD_ok {K : PySem.W.Frag} {kt : Kit} (hk : KitOk K kt) {t : TD} : ∀ {us : List TD} {b : Bool}, kitAnyD kt t us = some b → PySem.W.kitAny K (t.val K) (us.map (TD.val K)) = some b
  | [], b, e => by
    cases e
    exact kitAny_nil
  | u :: us, b, e => by
    unfold kitAnyD at e
    split at e
    · rename_i h
      cases e
      exact kitAny_cons (hk _ _ _ h) (fun q => nomatch q) fun _ => rfl
    · rename_i h
      exact kitAny_cons (hk _ _ _ h) (fun _ => kitAnyD_ok hk e) fun q => nomatch q
    · cases e
def isiF (cs : List Str) (kt : Kit) : FB := fun xs m => match xs with
  | [x, u] => (match tyD m x, clsD u with
    | some t, some t' => if tdOk cs t = true then (match kt t t' with
      | some b => some (.bl b, m)
      | none => none) else none
    | _, _ => none)
  | _ => none
theorem scf_isi {K : PySem.W.Frag} {cs : List Str} {kt : Kit} (hI : InsA K cs) (hk : KitOk K kt) : SCF K (isiF cs kt) (rIsi K) := fun ρ m H xs vs z m' Q M a e k => by
  unfold isiF at e
  split at e
  · rename_i x u
    split at e
    · rename_i t t' ht ht'
      split at e
      · rename_i hc
        split at e
        · rename_i b hb
          cases e
          obtain ⟨v, s, rfl, h1, v2, s2, rfl, h2, h3⟩ := a
          subst h3
          exact ⟨v, v2, _, _, b, rfl, clsD_ok h2 ht', tyD_ok hI M h1 ht hc, hk _ _ _ hb, k ρ H _ M .refl rfl⟩
        · cases e
      · cases e
    · cases e
  · cases e
section
variable {X : Cx} {x : Str} {p pos apos : Pos} {e a b o : Expr} {es : List Expr} {d : DA} {de da db : DE} {cs : List Str} {kt : Kit}
theorem se_isi (hI : InsA X.K cs) (hk : KitOk X.K kt) (hg : Gl X "isinstance") (hm : X.mg "isinstance" = none) (ha : SA X (e :: es) d) (he : starEach (e :: es) X.env = (false, eval e X.env) :: starEach es X.env := by rfl) (hpl : (backTo pos (starEach es X.env)).any (·.1) = false := by rfl) :
    SE X (.Call (.Name "isinstance" p) (e :: es) [] pos) (dB (isiF cs kt) d) := se_callB call_isi (scf_isi hI hk) hg hm (by decide +kernel) ha (by decide) (by decide) he hpl
def dIsiT (cs : List Str) (kt : Kit) (de : DE) (d : DA) : DE := fun env m => bindR (de env m) fun x m => bindR (d env m) fun us m => match tyD m x, clsDs us with
  | some t, some ts => if (tdOk cs t && decide (us.length ≤ sizeLine)) = true then (match kitAnyD kt t ts with
    | some b => some (.ok (.bl b), m)
    | none => none) else none
  | _, _ => none
theorem se_isiT {tk' : Nat} {tpos : Pos} (hI : InsA X.K cs) (hk : KitOk X.K kt) (hg : Gl X "isinstance") (hm : X.mg "isinstance" = none) (he : SE X e de) (ha : SA X es d)
    (hs : starEach [e, .Tuple es tk' tpos] X.env = (false, eval e X.env) :: starEach [.Tuple es tk' tpos] X.env := by rfl) (hs2 : starEach [.Tuple es tk' tpos] X.env = (false, eval (.Tuple es tk' tpos) X.env) :: starEach [] X.env := by rfl)
    (hpl : (backTo pos (starEach [.Tuple es tk' tpos] X.env)).any (·.1) = false := by rfl) : SE X (.Call (.Name "isinstance" p) [e, .Tuple es tk' tpos] [] pos) (dIsiT cs kt de d) := ⟨fun W tk =>
  impPE (pe_callB call_isiT hg hm (by decide +kernel) (pa_cons (he.run W tk) (pa_cons (pe_tup (ha.run W tk)) pa_nil hs2) hs) (by decide) (by decide) hs hpl) fun σ H Q ⟨ρ, env, m, z, m', s, e, p⟩ =>
    bindE s e p fun y m1 ρ1 H1 v s1 E1 r1 e1 p1 => bindA s1 e1 p1 fun us m2 ρ2 H2 vs s2 E2 r2 e2 p2 => by
      split at e2
      · rename_i t ts ht hts
        split at e2
        · rename_i hc
          rw [Bool.and_eq_true, decide_eq_true_eq] at hc
          split at e2
          · rename_i b hb
            cases e2
            refine ⟨by rw [← r2.length]; exact hc.2, fun q hq => ?_⟩
            have E3 : Ext ρ2 H2 ρ2 (upd H2 q (.tup vs)) := ext_new hq
            have M3 : RM X.K ρ2 _ (upd H2 q (.tup vs)) := s2.mem.laid hq
            exact ⟨v, q, vs, _, _, b, rfl, upd_same, clsDs_ok r2 hts, tyD_ok hI M3 ((r1.mono E2).mono E3) ht hc.1, kitAnyD_ok hk hb, p2 ρ2 _ M3 E3 _ rfl⟩
          · cases e2
        · cases e2
      · cases e2⟩
/-! ### == and != by an own method -/
/-- x op y, x an instance of the class c with the method at f; y of one of the kinds ts -/
def dCmpO (c : Str) (cs : List Str) (ts : List TD) (gz : List Vl → List Vl → List Vl) (g : FD) (da db : DE) : DE := fun env m => bindR (da env m) fun x m => bindR (db env m) fun y m => match insD m x, tyD m y with
  | some (c', _), some t => if (decide (c' = c) && (ts.contains t && tdOk cs t)) = true then g (gz [x, y] []) m else none
  | _, _ => none
structure OwnM (K : PySem.W.Frag) (c mn : Str) (f : Addr) (ts : List TD) : Prop where
  at_ : PySem.W.findIn K (.ref (He.ga K c)) mn = some (some (.ref f))
  fn : PySem.W.isFn K (.ref f) = true
  nf : ∀ t ∈ ts, PySem.W.notFirst K (He.ga K c) (t.val K) = true
variable {c mn : Str} {f : Addr} {ts : List TD} {k : Nat} {gz : List Vl → List Vl → List Vl} {g : FD}
/-- the rich comparison, somewhere below the running body -/
structure Sub (X : Cx) (n : Nat) (A : Around) : Prop where
  room : Room n A
  fr : A.frames = X.A.frames
theorem Sub.in1 {X : Cx} {n : Nat} {A : Around} (s : Sub X (n + 1) A) : Sub X n A.in1 := ⟨s.room.in1, s.fr⟩
theorem rc_own {op : CmpOp} {A : Around} {E : Value → Shared → Prop} (ho : (cmpInfo op).2.1 = mn) (hI : InsA X.K cs) (O : OwnM X.K c mn f ts) (F : Fz X.prog X.w X.K X.mg X.base k f 2 [] gz g) (sb : Sub X k A) {pins : List (Addr × Obj)} {σ : L2.St} {H : Hp} {s : Shared} {Q : Value → Shared → Prop} {EE : XK}
    {u : Value} {y : V} {q dx : Addr} {gs : List (Str × V)} {ρ : Lay} {m m' : Mem} {xv yv : Vl} {r : R Vl} {t : TD} (I : Inv X pins σ H s) (hq : H q = some (.ins (He.ga X.K c) dx gs)) (ry : RelV y u) (M : RM X.K ρ m H) (rx : RV X.K ρ H xv (.ref q)) (ryv : RV X.K ρ H yv y)
    (ht : tyD m yv = some t) (hts : ts.contains t = true) (htc : tdOk cs t = true) (e : g (gz [xv, yv] []) m = some (r, m')) (hE : ∀ e s', CXk X.prog X.w X.stack H s EE e s' → E e s')
    (p : ∀ ρ' H', RM X.K ρ' m' H' → Ext ρ H ρ' H' → match r with
      | .ok z => ∀ v w s', RV X.K ρ' H' z v → RelV v w → Inv X pins σ H' s' → Q w s'
      | .ex c fs => ∀ dd, XD X.K ρ' H' dd fs → EE (.ref (He.ga X.K c)) dd H') : wpAny (model X.prog X.w) A (richCompare op (.ref q) u) Q E s := by
  obtain ⟨fd, ps, gs', gV, h1, h2, h3⟩ := F.ex
  obtain ⟨mA, J, _⟩ := ins_get I.hok hq
  obtain ⟨od, J, _⟩ := J.look
  obtain ⟨m0, hF⟩ := I.fr
  obtain ⟨P, kx, hP, _⟩ := kit_of I ry (tyD_ok hI M ryv ht htc)
  have hl := kx.ty (model X.prog X.w) s.heap I.kIn hP
  refine PySem.W.cmp_K (op := op) (tb := t.val X.K) sb.room.units0 hF I.ok.mod.kin J hl (O.nf t (by simpa using hts)) (by rw [ho]; exact O.at_) O.fn ?_
  have e0 : Env0 X.prog X.w X.K X.mg X.base A X.stack s H := by
    have e := I.env0
    exact ⟨by rw [sb.fr]; exact e.frames, e.mod, e.bs, e.bsz, e.funs, e.frf, e.hok, e.bare⟩
  obtain ⟨hl2, rg⟩ := h3 ρ H [xv, yv] [.ref q, y] [] [] rfl rfl ⟨_, _, rfl, rx, _, _, rfl, ryv, rfl⟩ rfl
  have r1 : Vals [V.ref q, y] [Value.ref q, u] := .cons rfl (.cons ry .nil)
  have r2 := h2.rel r1 (.nil : Vals [] [])
  refine wpAny_call (codeAny_mono (h1.run A X.stack s H ⟨[.ref q, u], []⟩ (gs' [.ref q, u] []) (gV [.ref q, y] []) (fun v H' => ∃ ρ' z, r = .ok z ∧ RM X.K ρ' m' H' ∧ Ext ρ H ρ' H' ∧ RV X.K ρ' H' z v) EE sb.room e0 (h2.to s [.ref q, u] [] I.kIn rfl rfl) r2 ⟨hl2, ρ, m, _, r, m', M, rg, e, fun ρ' H' M' E' => ?_⟩) fun rr s' hq' => ?_)
  · have pp := p ρ' H' M' E'
    cases r with
    | ok z => exact fun v rv => ⟨ρ', z, rfl, M', E', rv⟩
    | ex c fs => exact pp
  · cases rr with
    | error er => exact hE er s' hq'
    | ok fl =>
      cases fl with
      | ret w =>
        obtain ⟨v, H', I', rv, ρ', z, rfl, M', E', rz⟩ := I.after hq'
        have pp := p ρ' H' M' E' v w s' rz rv I'
        show PySem.W.CmpBack Q w s'
        cases w with
        | notImplemented => cases v <;> first | (obtain ⟨_, hh⟩ := rv; cases hh) | cases rv
        | _ => exact pp
      | next => exact False.elim hq'
      | brk => exact False.elim hq'
      | cont => exact False.elim hq'
theorem se_cmpO {op : CmpOp} (ho : (cmpInfo op).2.1 = mn) (hop : ∀ a b, compareOp op a b = richCompare op a b) (hI : InsA X.K cs) (O : OwnM X.K c mn f ts) (F : Fz X.prog X.w X.K X.mg X.base k f 2 [] gz g) (hr : Room k X.A) (ha : SE X a da) (hb : SE X b db) (hm : behindInMarks op b = false) :
    SE X (.Compare a [op] [b] pos) (dCmpO c cs ts gz g da db) := ⟨fun W tk => ⟨fun pins s σ H Q I h => by
  obtain ⟨ρ, env, m, z, m', st, ee, pp⟩ := h
  refine wpAny_Compare1 ?_ hm
  have h' : rdE X.K W da σ H (fun v H1 => rdE X.K W db σ H1 fun u H2 => ∃ q dx gs ρ' m1 xv yv t, v = .ref q ∧ H2 q = some (.ins (He.ga X.K c) dx gs) ∧ RM X.K ρ' m1 H2 ∧ RV X.K ρ' H2 xv v ∧ RV X.K ρ' H2 yv u ∧ tyD m1 yv = some t ∧ ts.contains t = true ∧ tdOk cs t = true ∧ g (gz [xv, yv] []) m1 = some (z, m') ∧ Po X.K ρ' H2 (RV X.K) (fun c dd H' => W c dd σ H') Q z m') :=
    bindE st ee pp fun x m1 ρ1 H1 v s1 E1 r1 e1 p1 => bindE s1 e1 p1 fun y m2 ρ2 H2 u s2 E2 r2 e2 p2 => by
      split at e2
      · rename_i c' fs t hi ht
        split at e2
        · rename_i hc
          rw [Bool.and_eq_true, Bool.and_eq_true, decide_eq_true_eq] at hc
          obtain ⟨rfl, hc1, hc2⟩ := hc
          obtain ⟨q, dx, gs, rfl, h3, h4⟩ := insD_ok s2.mem (r1.mono E2) hi
          exact ⟨q, dx, gs, ρ2, m2, x, y, t, rfl, h3, s2.mem, r1.mono E2, r2, ht, hc1, hc2, e2, p2⟩
        · cases e2
      · cases e2
  refine thn ((ha.run W tk).run pins s σ H _ I h') fun v s1 ⟨x, H1, I1, rx, q1⟩ => ?_
  refine thn ((hb.run W tk).run pins s1 σ H1 _ I1 q1) fun u s2 ⟨y, H2, I2, ry, q, dx, gs, ρ2, m2, xv, yv, t, ex, hq, M2, rxv, ryv, ht, hts, htc, eg, p2⟩ => ?_
  subst ex
  obtain rfl : v = Value.ref q := rx
  rw [hop]
  refine rc_own (EE := fun c dd H' => W c dd σ H') ho hI O F ⟨hr, rfl⟩ I2 hq ry M2 rxv ryv ht hts htc eg (fun er s' hx => tk.call I2 (fun _ _ _ h => h) hx) fun ρ' H' M' E' => ?_
  have p3 := p2 ρ' H' M' E'
  cases z with
  | ok z => exact fun v w s' rz rv I' => ⟨v, H', I', rv, p3 v rz⟩
  | ex c fs => exact p3⟩⟩
/-- the same as a test -/
theorem st_of_cmp {op : CmpOp} (hm : behindInMarks op b = false) (h : SE X (.Compare a [op] [b] pos) de) (he : ∀ whole, isTrue (.Compare a [op] [b] pos) X.env whole = (do let v ← whole; standAt pos; holding [v] (truthy v)) := by intro _; rfl) : True := trivial
theorem se_eqO (hI : InsA X.K cs) (O : OwnM X.K c "__eq__" f ts) (F : Fz X.prog X.w X.K X.mg X.base k f 2 [] gz g) (hr : Room k X.A) (ha : SE X a da) (hb : SE X b db) : SE X (.Compare a [.Eq] [b] pos) (dCmpO c cs ts gz g da db) := se_cmpO rfl (fun _ _ => rfl) hI O F hr ha hb (nomark _)
theorem se_neO (hI : InsA X.K cs) (O : OwnM X.K c "__ne__" f ts) (F : Fz X.prog X.w X.K X.mg X.base k f 2 [] gz g) (hr : Room k X.A) (ha : SE X a da) (hb : SE X b db) : SE X (.Compare a [.NotEq] [b] pos) (dCmpO c cs ts gz g da db) := se_cmpO rfl (fun _ _ => rfl) hI O F hr ha hb (nomark _)
end
end Z
namespace ZQ
open PySem PySem.SeqAt
open AutoSeq1 (wpAny_loadPart')
open MeetsSeq MeetsSeq2 MeetsSeq3 SeqRoads2
section
variable {prog : Program} {w : World} {A : Around} {R : Result → Shared → Prop}
/-- x in l: at each turn the list is read anew; F: found -/
def InI (prog : Program) (w : World) (A : Around) (E : Value → Shared → Prop) (l : Addr) (x : Value) (N : Nat) (I : Nat → Shared → Prop) (F : Shared → Prop) : Prop :=
  ∀ i s, I i s → ∃ (items : Array Value) (n : Nat) (dd : Option Addr) (sl : Array (Option Value)), s.heap.get? l = some { cls := .type "list", dict := dd, data := .seq items n, slots := sl } ∧ items.size = N ∧
    ∀ (h : i < items.size), wpAny (model prog w) A.in1 (eqBool items[i] x) (fun r s' => (r = true → F s') ∧ (r = false → I (i + 1) s')) E s
theorem in_loopZ (l : Addr) (x : Value) (N : Nat) (I : Nat → Shared → Prop) (F : Shared → Prop) (hl : InI prog w A (fun e s' => R (.error e) s') l x N I F) (fT : ∀ s', F s' → R (.ok (.ret (.bool true))) s') (fF : ∀ s', I N s' → R (.ok (.ret (.bool false))) s') (k : Nat) :
    ∀ i : Nat, N - i = k → i ≤ N → ∀ s, I i s →
      wpAny (model prog w) A.in1 (Builtin.«list.__contains__.loop» ⟨[.ref l, x, rawInt i], []⟩) (GQ.FinOf prog w A R) (fun e s' => R (.error e) s') s := by
  induction k with
  | zero =>
    intro i hk hi s h
    obtain ⟨items, n, dd, sl, hl1, hs1, _⟩ := hl _ _ h
    have hi' : i = N := by omega
    have hR := fF s (hi' ▸ h)
    obtain ⟨hp, g, d, tk, os⟩ := s
    wp_walk using wpAny_loadPart' hl1
    have hi1 : items[((i : Nat) : Int).toNat]? = none := by simp; omega
    rw [hi1]
    wp_walk
    exact hR
  | succ k ih =>
    intro i hk hi s h
    obtain ⟨items, n, dd, sl, hl1, hs1, turn⟩ := hl _ _ h
    have hlt : i < items.size := by omega
    have ht := turn hlt
    obtain ⟨hp, g, d, tk, os⟩ := s
    wp_walk using wpAny_loadPart' hl1
    have hi1 : items[((i : Nat) : Int).toNat]? = some items[i] := by simp [hlt]
    have hc : ((i : Int) + 1) = ((i + 1 : Nat) : Int) := by omega
    rw [hi1]
    refine wpAny_bind (wpAny_mono ht (fun r s2 h2 => ?_) fun _ _ x => x)
    cases r with
    | true =>
      have hR := fT s2 (h2.1 rfl)
      obtain ⟨hp2, g2, d2, tk2, os2⟩ := s2
      wp_walk
      exact hR
    | false =>
      have hrec := ih (i + 1) (by omega) (by omega) s2 (h2.2 rfl)
      obtain ⟨hp2, g2, d2, tk2, os2⟩ := s2
      wp_walk
      rw [hc]
      exact ⟨plainId_quiet plain_contains_loop _, codeAny_builtin entry_contains_loop (by
        rw [Around.under_plainId plain_contains_loop _]
        exact hrec)⟩
theorem list_inZ (l : Addr) (x : Value) (N : Nat) (I : Nat → Shared → Prop) (F : Shared → Prop) (hl : InI prog w A (fun e s' => R (.error e) s') l x N I F) (fT : ∀ s', F s' → R (.ok (.ret (.bool true))) s') (fF : ∀ s', I N s' → R (.ok (.ret (.bool false))) s') {s : Shared} (h : I 0 s) :
    wpAny (model prog w) A.in1 (Builtin.«list.__contains__» ⟨[.ref l, x], []⟩) (GQ.FinOf prog w A R) (fun e s' => R (.error e) s') s := by
  have hrec := in_loopZ (A := A) (R := R) l x N I F hl fT fF _ 0 rfl (Nat.zero_le _) s h
  obtain ⟨items, n, dd, sl, hl1, hs1, _⟩ := hl _ _ h
  obtain ⟨hp, g, d, tk, os⟩ := s
  wp_walk using wpAny_loadPart' hl1
  exact ⟨plainId_quiet plain_contains_loop _, codeAny_builtin entry_contains_loop (by
    rw [Around.under_plainId plain_contains_loop _]
    exact hrec)⟩
end
section
variable {prog : Program} {w : World} {A : Around} {E : Value → Shared → Prop} {s : Shared}
theorem contains_listZ {l : Addr} {x : Value} {N : Nat} {Q : Bool → Shared → Prop} (I : Nat → Shared → Prop) (G : Shared → Prop) (hl : InI prog w A E l x N I G) (fT : ∀ s', G s' → Q true s') (fF : ∀ s', I N s' → Q false s') (h : I 0 s) :
    wpAny (model prog w) A (contains (.ref l) x) Q E s := by
  obtain ⟨items, n, dd, sl, hl1, hs1, _⟩ := id (hl _ _ h)
  refine wpAny_contains_slot ⟨_, hl1, rfl⟩ F.slot_list_contains (wpAny_mono (GQ.call_here (Q := fun v s' => ∃ b, v = .bool b ∧ Q b s') F.slot_list_contains ⟨_, hl1, rfl⟩ F.entry_list_contains (F.args_list_contains_2 _ _)
    (list_inZ (R := wants (fun v s' => ∃ b, v = .bool b ∧ Q b s') E) l x N I G hl (fun s' q => ⟨true, rfl, fT s' q⟩) (fun s' q => ⟨false, rfl, fF s' q⟩) h)) (fun v s' hv => ?_) fun _ _ e => e)
  obtain ⟨b, rfl, hq⟩ := hv
  exact wpAny_truthy_bool hq
theorem in_listZ {l : Addr} {x : Value} {N : Nat} {Q : Value → Shared → Prop} (I : Nat → Shared → Prop) (G : Shared → Prop) (hl : InI prog w A E l x N I G) (fT : ∀ s', G s' → Q (.bool true) s') (fF : ∀ s', I N s' → Q (.bool false) s') (h : I 0 s) :
    wpAny (model prog w) A (compareOp .In x (.ref l)) Q E s := by
  show wpAny _ A (do return .bool (← contains (.ref l) x)) Q E s
  exact wpAny_bind (contains_listZ I G hl (fun s' q => wpAny_pure (fT s' q)) (fun s' q => wpAny_pure (fF s' q)) h)
theorem notIn_listZ {l : Addr} {x : Value} {N : Nat} {Q : Value → Shared → Prop} (I : Nat → Shared → Prop) (G : Shared → Prop) (hl : InI prog w A E l x N I G) (fT : ∀ s', G s' → Q (.bool false) s') (fF : ∀ s', I N s' → Q (.bool true) s') (h : I 0 s) :
    wpAny (model prog w) A (compareOp .NotIn x (.ref l)) Q E s := by
  show wpAny _ A (do return .bool (!(← contains (.ref l) x))) Q E s
  exact wpAny_bind (contains_listZ I G hl (fun s' q => wpAny_pure (fT s' q)) (fun s' q => wpAny_pure (fF s' q)) h)
/-- == inside a builtin of two values that are not the same -/
theorem eqBool_ne {u v : Value} {Q : Bool → Shared → Prop} (hne : u ≠ v) (hf : ∀ x t, u ≠ .float x t) (h : wpAny (model prog w) A (richCompare .Eq u v) (fun z s' => ∃ r, z = .bool r ∧ Q r s') E s) : wpAny (model prog w) A (eqBool u v) Q E s := by
  unfold eqBool
  refine wpAny_holding ?_
  refine wpAny_ite_split (fun hab => absurd (eq_of_beq hab) hne) (fun _ => ?_)
  have tail : wpAny (model prog w) A (do truthOfDropped (← richCompare .Eq u v)) Q E s := wpAny_bind (wpAny_mono h (fun z s' hv => by
    obtain ⟨r, rfl, q⟩ := hv
    exact wpAny_truthy_bool q) fun _ _ x => x)
  cases u with
  | float x t => exact absurd rfl (hf x t)
  | _ => exact tail
end
end ZQ
namespace Z
open PySem PySem.Spec PyProof.Rows L2
variable [Kd]
/-! ### == inside a built-in, the memory kept -/
def EQ (X : Cx) (k : Nat) (h : Vl → Vl → Mem → Option Bool) : Prop :=
  ∀ (A : Around) (pins : List (Addr × Obj)) (s : Shared) (σ : L2.St) (ρ : Lay) (m : Mem) (H : Hp) (x y : Vl) (a b : V) (u v : Value) (r : Bool), Sub X k A → Inv X pins σ H s → RelV a u → RelV b v → RM X.K ρ m H → RV X.K ρ H x a → RV X.K ρ H y b → h x y m = some r →
    wpAny (model X.prog X.w) A (eqBool u v) (fun q s' => q = r ∧ ∃ ρ' H', RM X.K ρ' m H' ∧ Ext ρ H ρ' H' ∧ Inv X pins σ H' s') X.xe s
def orQ (h h' : Vl → Vl → Mem → Option Bool) : Vl → Vl → Mem → Option Bool := fun x y m => match h x y m with
  | some r => some r
  | none => h' x y m
theorem eq_or {X : Cx} {k : Nat} {h h' : Vl → Vl → Mem → Option Bool} (a : EQ X k h) (b : EQ X k h') : EQ X k (orQ h h') := fun A pins s σ ρ m H x y va vb u v r sb I ra rb M rx ry e => by
  unfold orQ at e
  split at e
  · rename_i q hq
    cases e
    exact a A pins s σ ρ m H x y va vb u v r sb I ra rb M rx ry hq
  · exact b A pins s σ ρ m H x y va vb u v r sb I ra rb M rx ry e
/-- of data -/
def datQ : Vl → Vl → Mem → Option Bool := fun x y m => match toDm m x, toDm m y with
  | some d, some e => if (SeqAt.shaped d && SeqAt.shaped e) = true then some (PyData.eqv d e) else none
  | _, _ => none
theorem eq_dat {X : Cx} : EQ X 0 datQ := fun A pins s σ ρ m H x y a b u v r sb I ra rb M rx ry e => by
  unfold datQ at e
  split at e
  · rename_i d d' hd hd'
    split at e
    · rename_i c
      cases e
      rw [Bool.and_eq_true] at c
      obtain ⟨as, r1⟩ := Dp.reads I d a u (toDm_ok M rx hd) ra
      obtain ⟨bs, r2⟩ := Dp.reads I d' b v (toDm_ok M ry hd') rb
      exact SeqAt.eqAt_reads _ _ A s _ _ _ _ r1 r2 (SeqAt.canLay_of_shaped c.1) (SeqAt.canLay_of_shaped c.2) (SeqAt.room_of_shaped c.1 sb.room.units) X.prog X.w X.xe _ ⟨rfl, ρ, H, M, .refl, I⟩
    · cases e
  · cases e
/-- surely not the same object -/
def scD : Vl → Option V
  | .non => some .non
  | .bl b => some (.bl b)
  | .int i => some (.int i)
  | .str x => some (.str x)
  | _ => none
def scNe : V → V → Bool
  | .non, .non => false
  | .bl a, .bl b => a != b
  | .int a, .int b => a != b
  | .str a, .str b => a != b
  | .bl _, .non => true
  | .bl _, .int _ => true
  | .bl _, .str _ => true
  | .non, .bl _ => true
  | .non, .int _ => true
  | .non, .str _ => true
  | .int _, .non => true
  | .int _, .bl _ => true
  | .int _, .str _ => true
  | .str _, .non => true
  | .str _, .bl _ => true
  | .str _, .int _ => true
  | _, _ => false
theorem scNe_ok : ∀ {a : V}, scNe a a = true → False := fun {a} e => by
  cases a <;> simp [scNe] at e
def refD : Vl → Bool
  | .tup _ => true
  | .lst _ => true
  | .frl _ => true
  | .dic _ => true
  | .dit _ => true
  | .ins _ _ => true
  | .obj _ => true
  | .glo _ => true
  | .err _ _ => true
  | _ => false
def difS (x y : Vl) : Bool := match scD x, scD y with
  | some a, some b => scNe a b
  | some _, none => refD y
  | none, some _ => refD x
  | none, none => (match x, y with
    | .obj n, .obj k => n != k
    | _, _ => false)
def difI (m : Mem) (x y : Vl) : Bool := difS x y || (match insD m x, insD m y with
  | some (_, fs), some (_, gs) => fs.any fun p => match fs.lookup p.1, gs.lookup p.1 with
    | some v, some w => difS v w
    | _, _ => false
  | _, _ => false)
theorem scD_ok {K : PySem.W.Frag} {ρ : Lay} {H : Hp} {x : Vl} {v a : V} (r : RV K ρ H x v) (e : scD x = some a) : v = a ∧ ∀ p, v ≠ .ref p := by
  cases x with
  | non => cases e; have r' : v = .non := r; subst r'; exact ⟨rfl, fun p h => nomatch h⟩
  | bl b => cases e; have r' : v = .bl b := r; subst r'; exact ⟨rfl, fun p h => nomatch h⟩
  | int b => cases e; have r' : v = .int b := r; subst r'; exact ⟨rfl, fun p h => nomatch h⟩
  | str b => cases e; have r' : v = .str b := r; subst r'; exact ⟨rfl, fun p h => nomatch h⟩
  | _ => cases e
theorem refD_ok {K : PySem.W.Frag} {ρ : Lay} {H : Hp} {x : Vl} {v : V} (r : RV K ρ H x v) (e : refD x = true) : ∃ p, v = .ref p := by
  cases x with
  | tup _ => obtain ⟨a, _, h, _⟩ := r; exact ⟨a, h⟩
  | lst _ => obtain ⟨a, _, h, _⟩ := r; exact ⟨a, h⟩
  | frl _ => obtain ⟨a, _, h, _⟩ := r; exact ⟨a, h⟩
  | dic _ => obtain ⟨a, _, h, _⟩ := r; exact ⟨a, h⟩
  | dit _ => obtain ⟨a, _, h, _⟩ := r; exact ⟨a, h⟩
  | ins _ _ => obtain ⟨a, _, _, h, _⟩ := r; exact ⟨a, h⟩
  | obj _ => obtain ⟨a, h, _⟩ := r; exact ⟨a, h⟩
  | err _ _ => obtain ⟨a, _, _, h, _⟩ := r; exact ⟨a, h⟩
  | glo c => exact ⟨_, r⟩
  | _ => cases e
theorem difS_ok {K : PySem.W.Frag} {ρ : Lay} {m : Mem} {H : Hp} (M : RM K ρ m H) {x y : Vl} {v : V} (rx : RV K ρ H x v) (ry : RV K ρ H y v) (e : difS x y = true) : False := by
  unfold difS at e
  split at e
  · rename_i a b h1 h2
    obtain ⟨rfl, _⟩ := scD_ok rx h1
    obtain ⟨rfl, _⟩ := scD_ok ry h2
    exact scNe_ok e
  · rename_i a h1 h2
    obtain ⟨p, rfl⟩ := refD_ok ry e
    exact (scD_ok rx h1).2 p rfl
  · rename_i a h1 h2
    obtain ⟨p, rfl⟩ := refD_ok rx e
    exact (scD_ok ry h2).2 p rfl
  · split at e
    · rename_i n k _ _
      obtain ⟨a, rfl, h1⟩ := rx
      obtain ⟨b, h2, h3⟩ := ry
      cases h2
      exact M.ne h1 h3 (by simpa using e) rfl
    · cases e
theorem difI_ok {K : PySem.W.Frag} {ρ : Lay} {m : Mem} {H : Hp} (M : RM K ρ m H) {x y : Vl} {v : V} (rx : RV K ρ H x v) (ry : RV K ρ H y v) (e : difI m x y = true) : False := by
  unfold difI at e
  rw [Bool.or_eq_true] at e
  rcases e with e | e
  · exact difS_ok M rx ry e
  · split at e
    · rename_i c fs c' gs h1 h2
      obtain ⟨p, dx, f1, rfl, h3, h4⟩ := insD_ok M rx h1
      obtain ⟨p', dx', f2, h5, h6, h7⟩ := insD_ok M ry h2
      cases h5
      rw [h3] at h6
      have h8 := Option.some.inj h6
      injection h8 with _ _ h9
      subst h9
      obtain ⟨q, _, hq⟩ := List.any_eq_true.mp e
      split at hq
      · rename_i z w hz hw
        obtain ⟨a, e1, r1⟩ := h4.get hz
        obtain ⟨b, e2, r2⟩ := h7.get hw
        rw [e1] at e2
        cases e2
        exact difS_ok M r1 r2 hq
      · cases hq
    · cases e
/-- of instances by an own method; q: what it answers -/
def ownQ (c : Str) (cs : List Str) (ts : List TD) (q : Vl → Vl → Mem → Option Bool) : Vl → Vl → Mem → Option Bool := fun x y m => match insD m x, tyD m y with
  | some (c', _), some t => if (decide (c' = c) && (ts.contains t && tdOk cs t)) = true then (match q x y m with
    | some b => if (b || difI m x y) = true then some b else none
    | none => none) else none
  | _, _ => none
theorem eq_own {X : Cx} {k : Nat} {c : Str} {cs : List Str} {ts : List TD} {gz : List Vl → List Vl → List Vl} {g : FD} {q : Vl → Vl → Mem → Option Bool} {f : Addr} (hI : InsA X.K cs) (O : OwnM X.K c "__eq__" f ts) (F : Fz X.prog X.w X.K X.mg X.base k f 2 [] gz g)
    (hg : ∀ x y m b, q x y m = some b → g (gz [x, y] []) m = some (.ok (.bl b), m)) : EQ X k (ownQ c cs ts q) := fun A pins s σ ρ m H x y a b u v r sb I ra rb M rx ry e => by
  unfold ownQ at e
  split at e
  · rename_i c' fs t hi ht
    split at e
    · rename_i hc
      rw [Bool.and_eq_true, Bool.and_eq_true, decide_eq_true_eq] at hc
      obtain ⟨rfl, hc1, hc2⟩ := hc
      split at e
      · rename_i b0 hq
        split at e
        · rename_i hd
          cases e
          obtain ⟨p, dx, gs, rfl, h3, h4⟩ := insD_ok M rx hi
          obtain rfl : u = Value.ref p := ra
          by_cases hne : Value.ref p = v
          · subst hne
            have hb : b = .ref p := by
              cases b <;> first | (cases rb; rfl) | (obtain ⟨_, hh⟩ := rb; cases hh) | cases rb
            subst hb
            have hr : r = true := by
              cases r with
              | true => rfl
              | false => exact (difI_ok M rx ry hd).elim
            subst hr
            exact SeqAt.EqAt.same (A := A) (s := s) (.ref p) X.prog X.w X.xe _ ⟨rfl, ρ, H, M, .refl, I⟩
          · refine ZQ.eqBool_ne hne (fun _ _ h => nomatch h) (rc_own (op := .Eq) (EE := fun _ _ _ => False) rfl hI O F sb I h3 rb M rx ry ht hc1 hc2 (hg _ _ _ _ hq) (fun er s' hx => ?_) fun ρ' H' M' E' => ?_)
            · exact (cxk_no hx).elim
            · intro z w s' rz rw_ I'
              obtain rfl : z = .bl r := rz
              obtain rfl : w = Value.bool r := rw_
              exact ⟨r, rfl, rfl, ρ', H', M', E', I'⟩
        · cases e
      · cases e
    · cases e
  · cases e
/-! x in xs -/
def anyQ (h : Vl → Vl → Mem → Option Bool) (m : Mem) (x : Vl) : List Vl → Option Bool
  | [] => some false
  | y :: ys => (match h y x m with
    | some true => some true
    | some false => anyQ h m x ys
    | none => none)
def inQ (neg : Bool) (h : Vl → Vl → Mem → Option Bool) : F2 := fun x y m => match lisD m y with
  | some ys => (match anyQ h m x ys with
    | some b => some (.bl (if neg = true then !b else b), m)
    | none => none)
  | none => none
section
variable {X : Cx} {k : Nat} {h : Vl → Vl → Mem → Option Bool} {a b e : Expr} {da db : DE} {pos : Pos}
theorem in_run (hq : EQ X k h) (hr : Room (k + 1) X.A) {pins : List (Addr × Obj)} {σ : L2.St} {ρ : Lay} {H : Hp} {m : Mem} {s : Shared} {x y : Vl} {vx vy : V} {u v : Value} {ys : List Vl} {r : Bool} {Q : Bool → Shared → Prop}
    (I : Inv X pins σ H s) (M : RM X.K ρ m H) (rx : RV X.K ρ H x vx) (ry : RV X.K ρ H y vy) (ru : RelV vx u) (rv : RelV vy v) (hy : lisD m y = some ys) (hb : anyQ h m x ys = some r)
    (fin : ∀ ρ' H' s', RM X.K ρ' m H' → Ext ρ H ρ' H' → Inv X pins σ H' s' → Q r s') :
    ∃ l N J G, v = .ref l ∧ ZQ.InI X.prog X.w X.A X.xe l u N J G ∧ (∀ s', G s' → Q true s') ∧ (∀ s', J N s' → Q false s') ∧ J 0 s := by
  obtain ⟨l, vs0, rfl, hs0, hr0⟩ := lisD_ok M ry hy
  obtain rfl : v = Value.ref l := rv
  let St : Shared → Prop := fun s' => ∃ ρ' H', RM X.K ρ' m H' ∧ Ext ρ H ρ' H' ∧ Inv X pins σ H' s'
  refine ⟨l, ys.length, fun i s' => St s' ∧ anyQ h m x (ys.drop i) = some r, fun s' => St s' ∧ r = true, rfl, fun i s' q => ?_, fun s' q => ?_, fun s' q => ?_, ⟨⟨ρ, H, M, .refl, I⟩, hb⟩⟩
  · obtain ⟨⟨ρ1, H1, M1, E1, I1⟩, ha⟩ := q
    obtain ⟨l', vs, hl', hs, hrs⟩ := lisD_ok M1 (ry.mono E1) hy
    cases hl'
    obtain ⟨its, r1, e1, z1⟩ := I1.list hs
    obtain ⟨⟨cls, dd, data, sl⟩, n, h1, h2, _, h3⟩ := e1
    simp only at h2 h3
    subst h2 h3
    refine ⟨its.toArray, n, dd, sl, h1, by rw [List.size_toArray, ← r1.length, ← hrs.length], fun hlt => ?_⟩
    have hlt' : i < ys.length := by rw [hrs.length, r1.length]; simpa using hlt
    have hd : ys.drop i = ys[i] :: ys.drop (i + 1) := List.drop_eq_getElem_cons hlt'
    rw [hd] at ha
    unfold anyQ at ha
    obtain ⟨w, hw1, hw2⟩ := hrs.get (List.getElem?_eq_getElem hlt')
    obtain ⟨u1, hu1, ru1⟩ := r1.get hw1
    have hit : its.toArray[i] = u1 := by
      have h1' : i < its.length := by simpa using hlt
      rw [List.getElem?_eq_getElem h1'] at hu1
      simpa using Option.some.inj hu1
    rw [hit]
    split at ha
    · rename_i hh
      refine wpAny_mono (hq X.A.in1 pins s' σ ρ1 m H1 ys[i] x w vx u1 u true ⟨hr.in1, rfl⟩ I1 ru1 ru M1 hw2 (rx.mono E1) hh) (fun q s2 h2 => ?_) fun _ _ z => z
      obtain ⟨rfl, ρ2, H2, M2, E2, I2⟩ := h2
      exact ⟨fun _ => ⟨⟨ρ2, H2, M2, E1.trans E2, I2⟩, (Option.some.inj ha).symm⟩, fun z => nomatch z⟩
    · rename_i hh
      refine wpAny_mono (hq X.A.in1 pins s' σ ρ1 m H1 ys[i] x w vx u1 u false ⟨hr.in1, rfl⟩ I1 ru1 ru M1 hw2 (rx.mono E1) hh) (fun q s2 h2 => ?_) fun _ _ z => z
      obtain ⟨rfl, ρ2, H2, M2, E2, I2⟩ := h2
      exact ⟨(fun z => nomatch z), fun _ => ⟨⟨ρ2, H2, M2, E1.trans E2, I2⟩, ha⟩⟩
    · cases ha
  · obtain ⟨⟨ρ1, H1, M1, E1, I1⟩, rfl⟩ := q
    exact fin ρ1 H1 s' M1 E1 I1
  · obtain ⟨⟨ρ1, H1, M1, E1, I1⟩, ha⟩ := q
    rw [List.drop_length] at ha
    cases ha
    exact fin ρ1 H1 s' M1 E1 I1
/-- a comparison as a test -/
theorem isTrue_cmp {M : Model} {A : Around} {E : Value → Shared → Prop} {s : Shared} {l r : Expr} {op : CmpOp} {env : Env} {whole : Sem Value} {Q : Bool → Shared → Prop} (h : wpAny M A (eval (.Compare l [op] [r] pos) env) (fun v s' => ∃ k, v = .bool k ∧ Q k s') E s) (hm : behindInMarks op r = false) : wpAny M A (isTrue (.Compare l [op] [r] pos) env whole) Q E s := fun Γ p hΓ => by
  have h' := h Γ p hΓ
  simp only [eval_Compare1, markedBehindIn_of_false hm, Sem.wp_bind', Sem.wp_holding, Sem.wp_cmd_standAt, Sem.wp_operate] at h'
  simp only [isTrue_Compare1, markedBehindIn_of_false hm, Sem.wp_bind', Sem.wp_holding, Sem.wp_cmd_standAt, Sem.wp_operate]
  refine Sem.wp_mono M Γ _ (fun a p₁ s₁ h₁ => Sem.wp_mono M Γ _ (fun b p2 s₂ h₂ => Sem.wp_mono M Γ _ (fun c p₃ s₃ h₃ => ?_) (fun _ _ _ h' => h') _ _ h₂) (fun _ _ _ h' => h') _ _ h₁) (fun _ _ _ h' => h') _ _ h'
  obtain ⟨k, rfl, q⟩ := h₃
  exact wpAny_truthy_bool q Γ p₃ hΓ
theorem st_cmpE {op : CmpOp} {de : DE} (h : SE X (.Compare a [op] [b] pos) de) (hm : behindInMarks op b = false := by rfl) : ST X (.Compare a [op] [b] pos) (tB' de) := ⟨fun W tk => ⟨fun pins s σ H Q I x => by
  obtain ⟨ρ, env, m, z, m', s0, e, p⟩ := x
  have x' : rdE X.K W de σ H (fun v H1 => ∃ k, v = .bl k ∧ Q k H1) := bindE s0 e p fun x m1 ρ1 H1 v s1 E1 r1 e1 p1 => by
    split at e1
    · rename_i k
      cases e1
      exact ⟨k, r1, p1 ρ1 H1 s1.mem .refl k rfl⟩
    · cases e1
  refine isTrue_cmp (thn ((h.run W tk).run pins s σ H _ I x') fun u s1 ⟨x, H1, I1, rx, k, ex, q⟩ => ?_) hm
  subst ex
  exact ⟨k, rx, H1, I1, q⟩⟩⟩
theorem se_inQ (hq : EQ X k h) (hr : Room (k + 1) X.A) (ha : SE X a da) (hb : SE X b db) (hm : behindInMarks .In b = false := by rfl) : SE X (.Compare a [.In] [b] pos) (d2 (inQ false h) da db) := se_cmp (r := fun v u H Q => ∀ (pins : List (Addr × Obj)) (σ : L2.St) (s : Shared) (uv uu : Value), Inv X pins σ H s → RelV v uv → RelV u uu → wpAny (model X.prog X.w) X.A (compareOp .In uv uu) (EP X pins σ Q) X.xe s)
  (fun pins s σ H x y v u Q I rx ry hh => hh pins σ s v u I rx ry) (fun ρ m H x y v u z m' Q M rx ry e k2 pins σ s uv uu I r1 r2 => by
    unfold inQ at e
    split at e
    · rename_i ys hy
      split at e
      · rename_i r hb
        cases e
        obtain ⟨l, N, J, G, rfl, h1, h2, h3, h4⟩ := in_run (Q := fun r s' => EP X pins σ Q (.bool r) s') hq hr I M rx ry r1 r2 hy hb fun ρ' H' s' M' E' I' => ⟨.bl r, H', I', rfl, k2 ρ' H' _ M' E' rfl⟩
        exact ZQ.in_listZ J G h1 h2 h3 h4
      · cases e
    · cases e) ha hb hm
theorem se_notinQ (hq : EQ X k h) (hr : Room (k + 1) X.A) (ha : SE X a da) (hb : SE X b db) (hm : behindInMarks .NotIn b = false := by rfl) : SE X (.Compare a [.NotIn] [b] pos) (d2 (inQ true h) da db) := se_cmp (r := fun v u H Q => ∀ (pins : List (Addr × Obj)) (σ : L2.St) (s : Shared) (uv uu : Value), Inv X pins σ H s → RelV v uv → RelV u uu → wpAny (model X.prog X.w) X.A (compareOp .NotIn uv uu) (EP X pins σ Q) X.xe s)
  (fun pins s σ H x y v u Q I rx ry hh => hh pins σ s v u I rx ry) (fun ρ m H x y v u z m' Q M rx ry e k2 pins σ s uv uu I r1 r2 => by
    unfold inQ at e
    split at e
    · rename_i ys hy
      split at e
      · rename_i r hb
        cases e
        obtain ⟨l, N, J, G, rfl, h1, h2, h3, h4⟩ := in_run (Q := fun r s' => EP X pins σ Q (.bool (!r)) s') hq hr I M rx ry r1 r2 hy hb fun ρ' H' s' M' E' I' => ⟨.bl (!r), H', I', rfl, k2 ρ' H' _ M' E' rfl⟩
        exact ZQ.notIn_listZ J G h1 h2 h3 h4
      · cases e
    · cases e) ha hb hm
/-! ### repr -/
/-! a bound of a text's length, reckoned without the text -/
mutual
def shB : PyData → Nat
  | .list xs => shBs xs + 4
  | .tuple xs => shBs xs + 4
  | .none => 4
  | .bool _ => 5
  | .int i => (PyData.shown (.int i)).length
  | .str x => (PyData.shown (.str x)).length
  | .dict kvs => (PyData.shown (.dict kvs)).length
def shBs : List PyData → Nat
  | [] => 0
  | x :: xs => shB x + 2 + shBs xs
end
theorem textFrom_le : ∀ (ts : List Str) (k : Nat) (acc : Str), (textFrom k acc ts).length ≤ acc.length + piled ts
  | [], _, acc => Nat.le_add_right _ _
  | t :: r, k, acc => by
    have ih := textFrom_le r (k + 1) (acc ++ (if k > 0 then ", " else "" : String) ++ t)
    have e : (acc ++ (if k > 0 then ", " else "" : String) ++ t).length ≤ acc.length + 2 + t.length := by
      rw [strLen_append, strLen_append]
      split <;> exact Nat.add_le_add_right (Nat.add_le_add_left (by decide) _) _
    rw [piled_cons]
    show (textFrom (k + 1) _ r).length ≤ _
    omega
theorem listText_le (ts : List Str) : (listText ts).length ≤ piled ts + 4 := by
  have h := textFrom_le ts 0 "["
  have e1 : ((("[" : String) : Str)).length = 1 := rfl
  have e2 : ((("]" : String) : Str)).length = 1 := rfl
  unfold listText
  rw [strLen_append, e2]
  rw [e1] at h
  omega
theorem tupleText_le (ts : List Str) : (tupleText ts).length ≤ piled ts + 4 := by
  unfold tupleText
  rw [strLen_append, strLen_append]
  have e1 : ((("(" : String) : Str)).length = 1 := rfl
  have e3 : (((if ts.length == 1 then ",)" else ")" : String) : Str)).length ≤ 2 := by split <;> decide
  rw [e1]
  by_cases h : ts = []
  · subst h
    have : (Str.join ((", " : String) : Str) []).length = 0 := rfl
    simp only [piled_nil, this]
    omega
  · have := join_length_add ts h
    omega
mutual
theorem shown_le : ∀ d : PyData, d.shown.length ≤ shB d
  | .list xs => Nat.le_trans (listText_le _) (Nat.add_le_add_right (shownAll_le xs) 4)
  | .tuple xs => Nat.le_trans (tupleText_le _) (Nat.add_le_add_right (shownAll_le xs) 4)
  | .none => by show (PyData.shown .none).length ≤ 4; decide
  | .bool b => by cases b <;> (show (PyData.shown (.bool _)).length ≤ 5) <;> decide
  | .int i => Nat.le_refl _
  | .str x => Nat.le_refl _
  | .dict kvs => Nat.le_refl _
theorem shownAll_le : ∀ xs : List PyData, piled (PyData.shownAll xs) ≤ shBs xs
  | [] => Nat.le_refl _
  | x :: xs => by
    show piled (PyData.shown x :: PyData.shownAll xs) ≤ shB x + 2 + shBs xs
    rw [piled_cons]
    have h1 := shown_le x
    have h2 := shownAll_le xs
    omega
end
def reprF : FB := fun xs m => match xs with
  | [x] => (match toDm m x with
    | some d => if (PyData.showable d && !PyData.hasDict d && decide (d.depth ≤ 60) && decide (shB d ≤ sizeLine)) = true then some (.str d.shown, m) else none
    | none => none)
  | _ => none
theorem call_reprD (hr : Room 0 X.A) : CallR X (.builtin "repr") (fun xs H Q => ∃ x d, xs = [x] ∧ Dp X.K H x d ∧ PyData.showable d = true ∧ PyData.hasDict d = false ∧ d.depth ≤ 60 ∧ d.shown.length ≤ sizeLine ∧ Q (.str d.shown) H) := by
  intro pins s σ H xs us Q I r hh
  obtain ⟨x, d, rfl, hd, h1, h2, h3, h4, q⟩ := hh
  obtain ⟨u, rfl, ru⟩ := vals1 r
  have fin : ∀ {h' : Heap} {t tk : Tok}, (∀ b o, s.heap.get? b = some o → h'.get? b = some o) → EP X pins σ Q (.str d.shown t) { s with heap := h', toks := tk } := fun hk => ⟨.str d.shown, H, I.kept hk, ⟨_, rfl⟩, q⟩
  have huu := hr.units
  cases hd with
  | non =>
    cases ru
    rw [PyData.shown_none] at q h4
    exact PySem.P.repr_of_none ⟨.str _, H, I.tok _, ⟨_, rfl⟩, q⟩
  | bl b =>
    cases ru
    rw [PyData.shown_bool] at q h4
    exact PySem.P.repr_of_bool ⟨.str _, H, I.tok _, ⟨_, rfl⟩, q⟩
  | int i =>
    obtain ⟨t, rfl⟩ := ru
    rw [PyData.shown_int] at q h4
    exact PySem.P.repr_of_int (by simpa [PyData.showable] using h1) ⟨.str _, H, I.tok _, ⟨_, rfl⟩, q⟩
  | str y =>
    obtain ⟨t, rfl⟩ := ru
    rw [PyData.shown_str] at q h4
    exact PySem.P.repr_of_str ⟨.str _, H, I.tok _, ⟨_, rfl⟩, q⟩ h4
  | lst hs ha =>
    rename_i a vs ds
    obtain rfl : u = Value.ref a := ru
    obtain ⟨as, r1⟩ := Dp.reads I (.list ds) (.ref a) (.ref a) (.lst hs ha) rfl
    exact repr_of_reads' r1 h1 (fun e => by rw [h2] at e; cases e) hr.gd (by omega) (fun _ _ e => e) (fun h' t tk hk => fin hk) h4
  | tup hs ha =>
    rename_i a vs ds
    obtain rfl : u = Value.ref a := ru
    obtain ⟨as, r1⟩ := Dp.reads I (.tuple ds) (.ref a) (.ref a) (.tup hs ha) rfl
    exact repr_of_reads' r1 h1 (fun e => by rw [h2] at e; cases e) hr.gd (by omega) (fun _ _ e => e) (fun h' t tk hk => fin hk) h4
theorem scf_repr {K : PySem.W.Frag} : SCF K reprF (fun xs H Q => ∃ x d, xs = [x] ∧ Dp K H x d ∧ PyData.showable d = true ∧ PyData.hasDict d = false ∧ d.depth ≤ 60 ∧ d.shown.length ≤ sizeLine ∧ Q (.str d.shown) H) := fun ρ m H xs vs z m' Q M a e k => by
  unfold reprF at e
  split at e
  · rename_i x
    split at e
    · rename_i d hd
      split at e
      · rename_i c
        cases e
        simp only [Bool.and_eq_true, Bool.not_eq_true', decide_eq_true_eq] at c
        obtain ⟨v, s, rfl, h1, h2⟩ := a
        subst h2
        exact ⟨v, d, rfl, toDm_ok M h1 hd, c.1.1.1, c.1.1.2, c.1.2, Nat.le_trans (shown_le d) c.2, k ρ H _ M .refl rfl⟩
      · cases e
    · cases e
  · cases e
theorem se_repr {p pos : Pos} {es : List Expr} {e : Expr} {d : DA} (hr : Room 0 X.A) (hg : Gl X "repr") (hm : X.mg "repr" = none) (ha : SA X (e :: es) d) (he : starEach (e :: es) X.env = (false, eval e X.env) :: starEach es X.env := by rfl) (hpl : (backTo pos (starEach es X.env)).any (·.1) = false := by rfl) :
    SE X (.Call (.Name "repr" p) (e :: es) [] pos) (dB reprF d) := se_callB (call_reprD hr) scf_repr hg hm (by decide +kernel) ha (by decide) (by decide) he hpl
/-! ### constants of classes -/
def dCV (c : Str) (y : Vl) (de : DE) : DE := fun env m => bindR (de env m) fun x m => match x with
  | .glo c' => if c' = c then some (.ok y, m) else none
  | _ => none
theorem se_cval {c f : Str} {mc : Value} {y : Vl} {v : V} {u : Value} {de : DE} (he : SE X e de) (r : ClX.CRead X.K (He.ga X.K c) mc) (kv : ClX.CVal X.K (He.ga X.K c) mc f v u) (ry : ∀ ρ H, RV X.K ρ H y v) (hab : attributeBase e f X.env (eval e X.env) = eval e X.env := by rfl) : SE X (.Attribute e f pos) (dCV c y de) := ⟨fun W tk =>
  impPE (ClX.pe_cval (he.run W tk) hab) fun σ H Q ⟨ρ, env, m, z, m', s, e, p⟩ => bindE s e p fun x m1 ρ1 H1 w s1 E1 r1 e1 p1 => by
    split at e1
    · rename_i c'
      split at e1
      · rename_i hc
        subst hc
        cases e1
        exact ⟨_, mc, v, u, r1, r, kv, p1 ρ1 H1 s1.mem .refl v (ry _ _)⟩
      · cases e1
    · cases e1⟩
end
end Z
namespace Z
open PySem PySem.Spec PyProof.Rows L2
variable [Kd]
/-! ### a call in a memory of its own: what it makes is told as values, but for the kept cells -/
def mapO {α β : Type} (f : α → Option β) : List α → Option (List β)
  | [] => some []
  | x :: xs => (match f x with
    | some y => (match mapO f xs with
      | some ys => some (y :: ys)
      | none => none)
    | none => none)
def mapP {κ α β : Type} (f : α → Option β) : List (κ × α) → Option (List (κ × β))
  | [] => some []
  | (k, x) :: xs => (match f x with
    | some y => (match mapP f xs with
      | some ys => some ((k, y) :: ys)
      | none => none)
    | none => none)
def posN (n : Nat) : List Nat → Option Nat
  | [] => none
  | k :: ks => if n = k then some 0 else (match posN n ks with
    | some i => some (i + 1)
    | none => none)
def cnv (keep : List Nat) (b : Nat) (m : Mem) : Nat → Vl → Option Vl
  | 0, _ => none
  | f + 1, x => (match x with
    | .obj n => (match posN n keep with
      | some i => some (.obj (b + i))
      | none => (match m[n]? with
        | some (.lst xs) => (mapO (cnv keep b m f) xs).map .lst
        | some (.dic xs) => (mapP (cnv keep b m f) xs).map .dic
        | some (.dit xs) => (mapP (cnv keep b m f) xs).map .dit
        | some (.ins c xs) => (mapP (cnv keep b m f) xs).map (.ins c)
        | none => none))
    | .tup xs => (mapO (cnv keep b m f) xs).map .tup
    | .lst xs => (mapO (cnv keep b m f) xs).map .lst
    | .frl xs => (mapO (cnv keep b m f) xs).map .frl
    | .dic xs => (mapP (cnv keep b m f) xs).map .dic
    | .dit xs => (mapP (cnv keep b m f) xs).map .dit
    | .ins c xs => (mapP (cnv keep b m f) xs).map (.ins c)
    | .err c xs => (mapP (cnv keep b m f) xs).map (.err c)
    | y => some y)
def cnvC (keep : List Nat) (b : Nat) (m : Mem) (f : Nat) : Cell → Option Cell
  | .lst xs => (mapO (cnv keep b m f) xs).map .lst
  | .dic xs => (mapP (cnv keep b m f) xs).map .dic
  | .dit xs => (mapP (cnv keep b m f) xs).map .dit
  | .ins c xs => (mapP (cnv keep b m f) xs).map (.ins c)
section
variable {K : PySem.W.Frag} {ρ ρ1 ρ' : Lay} {H H1 : Hp} {m m1 : Mem} {keep : List Nat} {b : Nat}
/-- how the new layout stands to the callee's -/
structure Tel (ρ1 ρ' : Lay) (H1 : Hp) (keep : List Nat) (b : Nat) : Prop where
  hz : ∀ a, a ∈ ρ1.z → a ∈ ρ'.z ∧ a ∉ ρ'.c
  hk : ∀ n i a, posN n keep = some i → ρ1.c[n]? = some a → ρ'.c[b + i]? = some a
  hn : ∀ n a, posN n keep = none → ρ1.c[n]? = some a → a ∈ ρ'.z ∧ a ∉ ρ'.c
  ht : ∀ a u, H1 a = some u → a ∈ ρ'.c → cellK u = true
theorem map_some {α β : Type} {f : α → β} {o : Option α} {y : β} (h : o.map f = some y) : ∃ x, o = some x ∧ y = f x := by
  cases o with
  | none => cases h
  | some x => cases h; exact ⟨x, rfl, rfl⟩
theorem rvs_map {g : Vl → Option Vl} (ih : ∀ (x y : Vl) (v : V), g x = some y → RV K ρ1 H1 x v → RV K ρ' H1 y v) : ∀ {xs ys : List Vl} {vs : List V}, mapO g xs = some ys → RVs K ρ1 H1 xs vs → RVs K ρ' H1 ys vs
  | [], _, _, e, r => by cases e; exact r
  | x :: xs, _, _, e, ⟨v, r, h1, h2, h3⟩ => by
    unfold mapO at e
    split at e
    · rename_i y hy
      split at e
      · rename_i ys hys
        cases e
        exact ⟨v, r, h1, ih _ _ _ hy h2, rvs_map ih hys h3⟩
      · cases e
    · cases e
theorem rks_map {g : Vl → Option Vl} (ih : ∀ (x y : Vl) (v : V), g x = some y → RV K ρ1 H1 x v → RV K ρ' H1 y v) : ∀ {xs ys : List (Key × Vl)} {vs : List (Key × V)}, mapP g xs = some ys → RKs K ρ1 H1 xs vs → RKs K ρ' H1 ys vs
  | [], _, _, e, r => by cases e; exact r
  | (k, x) :: xs, _, _, e, ⟨v, r, h1, h2, h3⟩ => by
    unfold mapP at e
    split at e
    · rename_i y hy
      split at e
      · rename_i ys hys
        cases e
        exact ⟨v, r, h1, ih _ _ _ hy h2, rks_map ih hys h3⟩
      · cases e
    · cases e
theorem rts_map {g : Vl → Option Vl} (ih : ∀ (x y : Vl) (v : V), g x = some y → RV K ρ1 H1 x v → RV K ρ' H1 y v) : ∀ {xs ys : List (List Key × Vl)} {vs : List (List Key × V)}, mapP g xs = some ys → RTs K ρ1 H1 xs vs → RTs K ρ' H1 ys vs
  | [], _, _, e, r => by cases e; exact r
  | (k, x) :: xs, _, _, e, ⟨v, r, h1, h2, h3⟩ => by
    unfold mapP at e
    split at e
    · rename_i y hy
      split at e
      · rename_i ys hys
        cases e
        exact ⟨v, r, h1, ih _ _ _ hy h2, rts_map ih hys h3⟩
      · cases e
    · cases e
theorem rfs_map {g : Vl → Option Vl} (ih : ∀ (x y : Vl) (v : V), g x = some y → RV K ρ1 H1 x v → RV K ρ' H1 y v) : ∀ {xs ys : List (Str × Vl)} {vs : List (Str × V)}, mapP g xs = some ys → RFs K ρ1 H1 xs vs → RFs K ρ' H1 ys vs
  | [], _, _, e, r => by cases e; exact r
  | (k, x) :: xs, _, _, e, ⟨v, r, h1, h2, h3⟩ => by
    unfold mapP at e
    split at e
    · rename_i y hy
      split at e
      · rename_i ys hys
        cases e
        exact ⟨v, r, h1, ih _ _ _ hy h2, rfs_map ih hys h3⟩
      · cases e
    · cases e
theorem cnv_ok (T : Tel ρ1 ρ' H1 keep b) (M : RM K ρ1 m1 H1) : ∀ (f : Nat) (x y : Vl) (v : V), cnv keep b m1 f x = some y → RV K ρ1 H1 x v → RV K ρ' H1 y v
  | 0, _, _, _, e, _ => by cases e
  | f + 1, x, y, v, e, r => by
    have ih := cnv_ok T M f
    have nt : ∀ {a : Addr} {u : HO}, Rd H1 a u → (∀ o, cellK (.frz o u) = false) → cellK u = false → a ∉ ρ'.c := fun {a u} h1 h2 h3 hc => by
      rcases h1 with h1 | ⟨o, h1⟩
      · rw [T.ht a u h1 hc] at h3; cases h3
      · have := T.ht a _ h1 hc; rw [h2 o] at this; cases this
    unfold cnv at e
    cases x with
    | obj n =>
      obtain ⟨a, rfl, ha⟩ := r
      simp only at e
      split at e
      · rename_i i hi
        cases e
        exact ⟨a, rfl, T.hk n i a hi ha⟩
      · rename_i hi
        obtain ⟨q1, q2⟩ := T.hn n a hi ha
        split at e
        · rename_i xs hx
          obtain ⟨ys, h1, rfl⟩ := map_some e
          obtain ⟨vs, h2, h3⟩ := M.at_ _ _ _ hx ha
          exact ⟨a, vs, rfl, ⟨q1, q2⟩, h2, rvs_map ih h1 h3⟩
        · rename_i xs hx
          obtain ⟨ys, h1, rfl⟩ := map_some e
          obtain ⟨vs, h2, h3⟩ := M.at_ _ _ _ hx ha
          exact ⟨a, vs, rfl, ⟨q1, q2⟩, h2, rks_map ih h1 h3⟩
        · rename_i xs hx
          obtain ⟨ys, h1, rfl⟩ := map_some e
          obtain ⟨vs, h2, h3⟩ := M.at_ _ _ _ hx ha
          exact ⟨a, vs, rfl, ⟨q1, q2⟩, h2, rts_map ih h1 h3⟩
        · rename_i c xs hx
          obtain ⟨ys, h1, rfl⟩ := map_some e
          obtain ⟨dx, vs, h2, h3⟩ := M.at_ _ _ _ hx ha
          exact ⟨a, dx, vs, rfl, ⟨q1, q2⟩, h2, rfs_map ih h1 h3⟩
        · cases e
    | tup xs =>
      obtain ⟨ys, h1, rfl⟩ := map_some e
      obtain ⟨a, vs, rfl, h2, h3⟩ := r
      exact ⟨a, vs, rfl, h2.elim (fun h => .inl ⟨nt h.2 (fun _ => rfl) rfl, h.2⟩) .inr, rvs_map ih h1 h3⟩
    | frl xs =>
      obtain ⟨ys, h1, rfl⟩ := map_some e
      obtain ⟨a, vs, rfl, h2, h3⟩ := r
      refine ⟨a, vs, rfl, h2.elim (fun h => .inl ⟨fun hc => ?_, h.2⟩) .inr, rvs_map ih h1 h3⟩
      obtain ⟨o, ho⟩ := h.2
      have := T.ht a _ ho hc
      cases this
    | lst xs =>
      obtain ⟨ys, h1, rfl⟩ := map_some e
      obtain ⟨a, vs, rfl, n, h2, h3⟩ := r
      exact ⟨a, vs, rfl, T.hz a n.1, h2, rvs_map ih h1 h3⟩
    | dic xs =>
      obtain ⟨ys, h1, rfl⟩ := map_some e
      obtain ⟨a, vs, rfl, n, h2, h3⟩ := r
      exact ⟨a, vs, rfl, T.hz a n.1, h2, rks_map ih h1 h3⟩
    | dit xs =>
      obtain ⟨ys, h1, rfl⟩ := map_some e
      obtain ⟨a, vs, rfl, n, h2, h3⟩ := r
      exact ⟨a, vs, rfl, T.hz a n.1, h2, rts_map ih h1 h3⟩
    | ins c xs =>
      obtain ⟨ys, h1, rfl⟩ := map_some e
      obtain ⟨a, dx, vs, rfl, n, h2, h3⟩ := r
      exact ⟨a, dx, vs, rfl, T.hz a n.1, h2, rfs_map ih h1 h3⟩
    | non => cases e; exact r
    | bl _ => cases e; exact r
    | int _ => cases e; exact r
    | str _ => cases e; exact r
    | ty _ => cases e; exact r
    | glo _ => cases e; exact r
    | err c xs =>
      obtain ⟨ys, h1, rfl⟩ := map_some e
      obtain ⟨a, d, gs, rfl, n, h2, h3, h4⟩ := r
      refine ⟨a, d, gs, rfl, fun hc => ?_, h2, h3.elim (fun ⟨dd, q1, q2, q3⟩ => .inl ⟨dd, q1, fun hc => ?_, q3⟩) .inr, rfs_map ih h1 h4⟩
      · have := T.ht a _ h2 hc
        cases this
      · have := T.ht dd _ q3 hc
        cases this
theorem cnvC_ok (T : Tel ρ1 ρ' H1 keep b) (M : RM K ρ1 m1 H1) {f : Nat} {a : Addr} : ∀ {c c' : Cell}, cnvC keep b m1 f c = some c' → RC K ρ1 H1 a c → RC K ρ' H1 a c'
  | .lst xs, _, e, ⟨vs, h1, h2⟩ => by
    obtain ⟨ys, h3, rfl⟩ := map_some e
    exact ⟨vs, h1, rvs_map (cnv_ok T M f) h3 h2⟩
  | .dic xs, _, e, ⟨vs, h1, h2⟩ => by
    obtain ⟨ys, h3, rfl⟩ := map_some e
    exact ⟨vs, h1, rks_map (cnv_ok T M f) h3 h2⟩
  | .dit xs, _, e, ⟨vs, h1, h2⟩ => by
    obtain ⟨ys, h3, rfl⟩ := map_some e
    exact ⟨vs, h1, rts_map (cnv_ok T M f) h3 h2⟩
  | .ins c xs, _, e, ⟨dx, vs, h1, h2⟩ => by
    obtain ⟨ys, h3, rfl⟩ := map_some e
    exact ⟨dx, vs, h1, rfs_map (cnv_ok T M f) h3 h2⟩
theorem RC.kind {a : Addr} : ∀ {c : Cell}, RC K ρ H a c → ∃ u, H a = Option.some u ∧ cellK u = true
  | .lst _, ⟨_, h, _⟩ => ⟨_, h, rfl⟩
  | .dic _, ⟨_, h, _⟩ => ⟨_, h, rfl⟩
  | .dit _, ⟨_, h, _⟩ => ⟨_, h, rfl⟩
  | .ins _ _, ⟨_, _, h, _⟩ => ⟨_, h, rfl⟩
theorem RM.kind (M : RM K ρ m H) {a : Addr} (ha : a ∈ ρ.c) : ∃ u, H a = Option.some u ∧ cellK u = true := by
  obtain ⟨n, hn⟩ := List.mem_iff_getElem?.mp ha
  have hl : n < m.length := by rw [← M.len]; exact (List.getElem?_eq_some_iff.mp hn).1
  exact RC.kind (M.at_ n m[n] a (by simp [hl]) hn)
theorem posN_some : ∀ {keep : List Nat} {n i : Nat}, posN n keep = some i → keep[i]? = some n
  | [], _, _, e => by cases e
  | k :: ks, n, i, e => by
    unfold posN at e
    split at e
    · rename_i h
      cases e
      rw [h]
      rfl
    · split at e
      · rename_i j hj
        cases e
        have := posN_some hj
        simpa using this
      · cases e
theorem posN_none : ∀ {keep : List Nat} {n : Nat}, posN n keep = none → n ∉ keep
  | [], _, _ => by simp
  | k :: ks, n, e => by
    unfold posN at e
    split at e
    · cases e
    · rename_i h
      split at e
      · cases e
      · rename_i hj
        intro z
        rcases List.mem_cons.mp z with z | z
        · exact h z
        · exact posN_none hj z
/-- the cells that are kept -/
def cellsK (keep : List Nat) (b : Nat) (m1 : Mem) (fu : Nat) : Option (List Cell) := mapO (fun n => match m1[n]? with
  | some c => cnvC keep b m1 fu c
  | none => none) keep
theorem mapO_len {α β : Type} {f : α → Option β} : ∀ {xs : List α} {ys : List β}, mapO f xs = some ys → ys.length = xs.length
  | [], _, e => by cases e; rfl
  | x :: xs, _, e => by
    unfold mapO at e
    split at e
    · split at e
      · rename_i ys hys
        cases e
        rw [List.length_cons, List.length_cons, mapO_len hys]
      · cases e
    · cases e
theorem mapO_get {α β : Type} {f : α → Option β} : ∀ {xs : List α} {ys : List β} {i : Nat} {y : β}, mapO f xs = some ys → ys[i]? = some y → ∃ x, xs[i]? = some x ∧ f x = some y
  | [], _, _, _, e, h => by cases e; simp at h
  | x :: xs, _, i, y, e, h => by
    unfold mapO at e
    split at e
    · rename_i z hz
      split at e
      · rename_i ys hys
        cases e
        cases i with
        | zero =>
          simp at h
          subst h
          exact ⟨x, rfl, hz⟩
        | succ i => exact mapO_get (i := i) hys (by simpa using h)
      · cases e
    · cases e
theorem mapO_dom {α β : Type} {f : α → Option β} : ∀ {xs : List α} {ys : List β} {x : α}, mapO f xs = some ys → x ∈ xs → ∃ y, f x = some y
  | [], _, _, _, h => nomatch h
  | z :: xs, _, x, e, h => by
    unfold mapO at e
    split at e
    · rename_i y hy
      split at e
      · rename_i ys hys
        rcases List.mem_cons.mp h with rfl | h
        · exact ⟨y, hy⟩
        · exact mapO_dom hys h
      · cases e
    · cases e
theorem fresh_lay {cs : List Cell} {fu : Nat} (M : RM K ρ m H) (M1 : RM K ρ1 m1 H1) (E : Ext ⟨[], ρ.z⟩ H ρ1 H1) (nd : keep.Nodup) (hc : cellsK keep m.length m1 fu = some cs) :
    ∃ ρ', RM K ρ' (m ++ cs) H1 ∧ Ext ρ H ρ' H1 ∧ Tel ρ1 ρ' H1 keep m.length := by
  have valid : ∀ n, n ∈ keep → ∃ c, m1[n]? = some c := fun n hn => by
    obtain ⟨y, hy⟩ := mapO_dom hc hn
    split at hy
    · rename_i c hc'
      exact ⟨c, hc'⟩
    · cases hy
  have adr : ∀ n, n ∈ keep → ρ1.c[n]? = some (ρ1.c.getD n 0) := fun n hn => by
    obtain ⟨c, h⟩ := valid n hn
    obtain ⟨a, ha⟩ := M1.adr h
    rw [List.getD_eq_getElem?_getD, ha]
    rfl
  let kept := keep.map fun n => ρ1.c.getD n 0
  have kin : ∀ a, a ∈ kept → a ∈ ρ1.c := fun a ha => by
    obtain ⟨n, hn, rfl⟩ := List.mem_map.mp ha
    exact List.mem_of_getElem? (adr n hn)
  have knd : kept.Nodup := by
    show (keep.map _).Nodup
    rw [List.Nodup, List.pairwise_map]
    refine List.Pairwise.imp_of_mem (fun {x y} hx hy hne he => ?_) nd
    exact M1.ne (adr x hx) (adr y hy) hne he
  have new1 : ∀ a, a ∈ ρ1.c → H a = none := fun a ha => (E.oldc a ha).elim (fun h => nomatch h) id
  have cin : ∀ a, a ∈ ρ.c → H a ≠ none := fun a ha => by
    obtain ⟨o, ho⟩ := M.some ha
    rw [ho]
    exact fun h => nomatch h
  have kpt : ∀ a o, H a = some o → H1 a = some o := fun a o ha => E.keep a o ha (fun h => nomatch h)
  have zout : ∀ a, a ∈ ρ1.z → a ∉ ρ.c := fun a ha hc => by
    rcases E.oldz a ha with h | h
    · exact (M.zt a h).1 hc
    · exact cin a hc h
  have mk : ∀ a, a ∈ kept ↔ a ∈ keep.map fun n => ρ1.c.getD n 0 := fun a => Iff.rfl
  have memz : ∀ a, a ∈ ((ρ1.z ++ ρ1.c).filter fun a => !kept.contains a) ↔ (a ∈ ρ1.z ∨ a ∈ ρ1.c) ∧ a ∉ kept := by
    intro a
    rw [List.mem_filter, List.mem_append]
    simp
  have E' : Ext ρ H ⟨ρ.c ++ kept, (ρ1.z ++ ρ1.c).filter fun a => !kept.contains a⟩ H1 := by
    refine ⟨List.prefix_append _ _, fun a ha => (memz a).mpr ⟨.inl (E.zin a ha), fun hk => ?_⟩, fun a o h _ => kpt a o h, fun a o h => ⟨o, kpt a o h⟩, fun a ha => ?_, fun a ha => ?_⟩
    · obtain ⟨o, ho⟩ := (M.zt a ha).2
      rw [new1 a (kin a hk)] at ho
      cases ho
    · rcases List.mem_append.mp ha with h | h
      · exact .inl h
      · exact .inr (new1 a (kin a h))
    · rcases ((memz a).mp ha).1 with h | h
      · exact E.oldz a h
      · exact .inr (new1 a h)
  have T : Tel ρ1 ⟨ρ.c ++ kept, (ρ1.z ++ ρ1.c).filter fun a => !kept.contains a⟩ H1 keep m.length := by
    refine ⟨fun a ha => ⟨(memz a).mpr ⟨.inl ha, fun hk => (M1.zt a ha).1 (kin a hk)⟩, fun hc => ?_⟩, fun n i a hi ha => ?_, fun n a hi ha => ⟨(memz a).mpr ⟨.inr (List.mem_of_getElem? ha), fun hk => ?_⟩, fun hc => ?_⟩, fun a u hu hc => ?_⟩
    · rcases List.mem_append.mp hc with h | h
      · exact zout a ha h
      · exact (M1.zt a ha).1 (kin a h)
    · have hk := posN_some hi
      show (ρ.c ++ kept)[m.length + i]? = some a
      rw [← M.len, List.getElem?_append_right (Nat.le_add_right _ _), Nat.add_sub_cancel_left]
      show (keep.map _)[i]? = some a
      rw [List.getElem?_map, hk]
      rw [adr n (List.mem_of_getElem? hk)] at ha
      exact ha
    · obtain ⟨n', hn', e⟩ := List.mem_map.mp hk
      have h1 := adr n' hn'
      rw [e] at h1
      by_cases q : n = n'
      · subst q
        exact posN_none hi hn'
      · exact M1.ne ha h1 q rfl
    · rcases List.mem_append.mp hc with h | h
      · exact cin a h (new1 a (List.mem_of_getElem? ha))
      · obtain ⟨n', hn', e⟩ := List.mem_map.mp h
        have h1 := adr n' hn'
        rw [e] at h1
        by_cases q : n = n'
        · subst q
          exact posN_none hi hn'
        · exact M1.ne ha h1 q rfl
    · rcases List.mem_append.mp hc with h | h
      · obtain ⟨u', h1, h2⟩ := M.kind h
        rw [kpt a u' h1] at hu
        cases hu
        exact h2
      · obtain ⟨u', h1, h2⟩ := M1.kind (kin a h)
        rw [h1] at hu
        cases hu
        exact h2
  refine ⟨⟨ρ.c ++ kept, (ρ1.z ++ ρ1.c).filter fun a => !kept.contains a⟩, ⟨?_, ?_, fun n c a h1 h2 => ?_, fun a ha => ?_⟩, E', T⟩
  · show (ρ.c ++ kept).Nodup
    rw [List.nodup_append]
    exact ⟨M.nd, knd, fun a ha b hb e => by subst e; exact cin a ha (new1 a (kin a hb))⟩
  · show (ρ.c ++ kept).length = (m ++ cs).length
    rw [List.length_append, List.length_append, M.len, mapO_len hc, List.length_map]
  · by_cases hn : n < m.length
    · rw [List.getElem?_append_left hn] at h1
      have h2' : (ρ.c ++ kept)[n]? = some a := h2
      rw [List.getElem?_append_left (by rw [M.len]; exact hn)] at h2'
      exact (M.at_ n c a h1 h2').mono E' (fun o ho => kpt a o ho)
    · have hn' : m.length ≤ n := Nat.le_of_not_lt hn
      rw [List.getElem?_append_right hn'] at h1
      have h2' : (ρ.c ++ kept)[n]? = some a := h2
      rw [List.getElem?_append_right (by rw [M.len]; exact hn'), M.len] at h2'
      obtain ⟨q, hq1, hq2⟩ := mapO_get hc h1
      have h3 : (keep.map fun n => ρ1.c.getD n 0)[n - m.length]? = some a := h2'
      rw [List.getElem?_map, hq1] at h3
      have h4 : ρ1.c.getD q 0 = a := Option.some.inj h3
      have h5 := adr q (List.mem_of_getElem? hq1)
      rw [h4] at h5
      split at hq2
      · rename_i c0 hc0
        exact cnvC_ok T M1 hq2 (M1.at_ q c0 a hc0 h5)
      · cases hq2
  · obtain ⟨h1, h2⟩ := (memz a).mp ha
    refine ⟨fun hc => ?_, h1.elim (fun h => (M1.zt a h).2) fun h => M1.some h⟩
    rcases List.mem_append.mp hc with h | h
    · rcases h1 with h1 | h1
      · exact zout a h1 h
      · exact cin a h (new1 a h1)
    · exact h2 h
/-- the callee's view: no cell of the caller -/
theorem RM.empty (M : RM K ρ m H) : RM K ⟨[], ρ.z⟩ [] H := ⟨List.nodup_nil, rfl, fun n c a h _ => by simp at h, fun a ha => ⟨(fun h => nomatch h), (M.zt a ha).2⟩⟩
mutual
theorem RV.alone : ∀ (x : Vl) {v : V}, RV K ρ H x v → clo 0 x = true → RV K ⟨[], ρ.z⟩ H x v
  | .non, _, h, _ => h
  | .bl _, _, h, _ => h
  | .int _, _, h, _ => h
  | .str _, _, h, _ => h
  | .ty _, _, h, _ => h
  | .glo _, _, h, _ => h
  | .tup xs, _, ⟨a, vs, h1, h2, h3⟩, c => ⟨a, vs, h1, h2.elim (fun h => .inl ⟨(fun z => nomatch z), h.2⟩) .inr, RVs.alone xs h3 c⟩
  | .lst xs, _, ⟨a, vs, h1, n, h2, h3⟩, c => ⟨a, vs, h1, ⟨n.1, (fun z => nomatch z)⟩, h2, RVs.alone xs h3 c⟩
  | .frl xs, _, ⟨a, vs, h1, h2, h3⟩, c => ⟨a, vs, h1, h2.elim (fun h => .inl ⟨(fun z => nomatch z), h.2⟩) .inr, RVs.alone xs h3 c⟩
  | .dic xs, _, ⟨a, vs, h1, n, h2, h3⟩, c => ⟨a, vs, h1, ⟨n.1, (fun z => nomatch z)⟩, h2, RKs.alone xs h3 c⟩
  | .dit xs, _, ⟨a, vs, h1, n, h2, h3⟩, c => ⟨a, vs, h1, ⟨n.1, (fun z => nomatch z)⟩, h2, RTs.alone xs h3 c⟩
  | .ins _ fs, _, ⟨a, dx, gs, h1, n, h2, h3⟩, c => ⟨a, dx, gs, h1, ⟨n.1, (fun z => nomatch z)⟩, h2, RFs.alone fs h3 c⟩
  | .obj n, _, _, c => absurd (of_decide_eq_true (show decide (n < 0) = true from c)) (Nat.not_lt_zero n)
  | .err _ fs, _, ⟨a, d, gs, h1, n, h2, h3, h4⟩, c => ⟨a, d, gs, h1, (fun z => nomatch z), h2, h3.elim (fun ⟨dd, q1, q2, q3⟩ => .inl ⟨dd, q1, (fun z => nomatch z), q3⟩) .inr, RFs.alone fs h4 c⟩
theorem RVs.alone : ∀ (xs : List Vl) {vs : List V}, RVs K ρ H xs vs → cloL 0 xs = true → RVs K ⟨[], ρ.z⟩ H xs vs
  | [], _, h, _ => h
  | x :: xs, _, ⟨v, r, h1, h2, h3⟩, c => ⟨v, r, h1, RV.alone x h2 (and2 c).1, RVs.alone xs h3 (and2 c).2⟩
theorem RKs.alone : ∀ (xs : List (Key × Vl)) {vs : List (Key × V)}, RKs K ρ H xs vs → cloK 0 xs = true → RKs K ⟨[], ρ.z⟩ H xs vs
  | [], _, h, _ => h
  | (_, x) :: xs, _, ⟨v, r, h1, h2, h3⟩, c => ⟨v, r, h1, RV.alone x h2 (and2 c).1, RKs.alone xs h3 (and2 c).2⟩
theorem RTs.alone : ∀ (xs : List (List Key × Vl)) {vs : List (List Key × V)}, RTs K ρ H xs vs → cloT 0 xs = true → RTs K ⟨[], ρ.z⟩ H xs vs
  | [], _, h, _ => h
  | (_, x) :: xs, _, ⟨v, r, h1, h2, h3⟩, c => ⟨v, r, h1, RV.alone x h2 (and2 c).1, RTs.alone xs h3 (and2 c).2⟩
theorem RFs.alone : ∀ (xs : List (Str × Vl)) {vs : List (Str × V)}, RFs K ρ H xs vs → cloF 0 xs = true → RFs K ⟨[], ρ.z⟩ H xs vs
  | [], _, h, _ => h
  | (_, x) :: xs, _, ⟨v, r, h1, h2, h3⟩, c => ⟨v, r, h1, RV.alone x h2 (and2 c).1, RFs.alone xs h3 (and2 c).2⟩
end
/-- what is kept as a cell: nothing; what is handed back -/
def kNone : Vl → List Nat := fun _ => []
def kTop : Vl → List Nat
  | .obj n => [n]
  | _ => []
def freshR (keep : Vl → List Nat) (fu : Nat) (m : Mem) : Option (R Vl × Mem) → Option (R Vl × Mem)
  | some (.ok x, m1) => if (keep x).Nodup then (match cnv (keep x) m.length m1 fu x, cellsK (keep x) m.length m1 fu with
    | some y, some cs => some (.ok y, m ++ cs)
    | _, _ => none) else none
  | some (.ex c fs, m1) => (match mapP (cnv [] m.length m1 fu) fs with
    | some gs => some (.ex c gs, m)
    | none => none)
  | none => none
def freshF (keep : Vl → List Nat) (fu : Nat) (g : FD) : FD := fun xs m => if cloL 0 xs = true then freshR keep fu m (g xs []) else none
def freshG (keep : Vl → List Nat) (fu : Nat) (gd : List Vl → List Vl → Mem → Option (R Vl × Mem)) : List Vl → List Vl → Mem → Option (R Vl × Mem) := fun xs ys m => if (cloL 0 xs && cloL 0 ys) = true then freshR keep fu m (gd xs ys []) else none
theorem fresh_po {W : Value → Option Addr → Hp → Prop} {Q : VK} {kf : Vl → List Nat} {fu : Nat} {g : Option (R Vl × Mem)} {r : R Vl} {m' : Mem} (M : RM K ρ m H) (e : freshR kf fu m g = some (r, m')) (p : Po K ρ H (RV K) W Q r m') :
    ∃ r1 m1, g = some (r1, m1) ∧ Po K ⟨[], ρ.z⟩ H (RV K) W Q r1 m1 := by
  unfold freshR at e
  split at e
  · rename_i x m1
    split at e
    · rename_i hnd
      split at e
      · rename_i y cs hy hcs
        cases e
        refine ⟨_, _, rfl, fun ρ1 H1 M1 E1 v rv => ?_⟩
        obtain ⟨ρ', M', E', T⟩ := fresh_lay M M1 E1 hnd hcs
        exact p ρ' H1 M' E' v (cnv_ok T M1 _ _ _ _ hy rv)
      · cases e
    · cases e
  · rename_i c fs m1
    split at e
    · rename_i gs hg
      cases e
      refine ⟨_, _, rfl, fun ρ1 H1 M1 E1 dd x => ?_⟩
      obtain ⟨ρ', M', E', T⟩ := fresh_lay (keep := []) (cs := []) (fu := fu) M M1 E1 List.nodup_nil rfl
      rw [List.append_nil] at M'
      refine p ρ' H1 M' E' dd ?_
      cases dd with
      | none =>
        have hf : fs = [] := x
        subst hf
        cases hg
        exact rfl
      | some d =>
        obtain ⟨gv, x1, x2, x3⟩ := x
        refine ⟨gv, x1, fun hc => ?_, rfs_map (cnv_ok T M1 fu) hg x3⟩
        have := T.ht d _ x1 hc
        cases this
    · cases e
  · cases e
theorem freshF_sp {g : FD} {kf : Vl → List Nat} {fu n : Nat} (vs : List V) (H : Hp) (Q : VK) (E : XK) (h : spZ K n (freshF kf fu g) vs H Q E) : spZ K n g vs H Q E := by
  obtain ⟨hl, ρ, m, xs, r, m', M, rx, e, p⟩ := h
  unfold freshF at e
  split at e
  · rename_i hc
    obtain ⟨r1, m1, hg, p1⟩ := fresh_po M e p
    exact ⟨hl, ⟨[], ρ.z⟩, [], xs, r1, m1, M.empty, RVs.alone xs rx hc, hg, p1⟩
  · cases e
end
section
variable {X : Cx} {k n : Nat} {f : Addr} {ks : List Str} {gz : List Vl → List Vl → List Vl} {g : FD} {gd : List Vl → List Vl → Mem → Option (R Vl × Mem)}
theorem Fz.fresh {P : Program} {w : World} {K : PySem.W.Frag} {mg : Str → Option Value} {base : Heap} (F : Fz P w K mg base k f n ks gz g) (kf : Vl → List Nat) (fu : Nat) : Fz P w K mg base k f n ks gz (freshF kf fu g) := by
  obtain ⟨fd, ps, gs, gV, h1, h2, h3⟩ := F.ex
  exact ⟨fd, ps, gs, gV, h1.imp fun vs H Q E h => freshF_sp vs H Q E h, h2, h3⟩
theorem Runs.fresh (R : Z.Runs X f n ks gd) (kf : Vl → List Nat) (fu : Nat) : Z.Runs X f n ks (freshG kf fu gd) := fun {W} tk {pins σ H s Q us ws vs zs ρ m m' xs ys r} I a b M rx ry hn hk e p => by
  unfold freshG at e
  split at e
  · rename_i hc
    rw [Bool.and_eq_true] at hc
    obtain ⟨r1, m1, hg, p1⟩ := fresh_po M e p
    exact R tk I a b M.empty (RVs.alone xs rx hc.1) (RVs.alone ys ry hc.2) hn hk hg p1
  · cases e
/-- a call told by what it answers -/
theorem Runs.imp {gd' : List Vl → List Vl → Mem → Option (R Vl × Mem)} (R : Z.Runs X f n ks gd) (q : ∀ xs ys m r m', xs.length = n → ys.length = ks.length → gd' xs ys m = some (r, m') → gd xs ys m = some (r, m')) : Z.Runs X f n ks gd' := by
  intro W tk pins σ H s Q us ws vs zs ρ m m' xs ys r I a b M rx ry hn hk e p
  exact R tk I a b M rx ry hn hk (q _ _ _ _ _ hn hk e) p
theorem Fz.impE {P : Program} {w : World} {K : PySem.W.Frag} {mg : Str → Option Value} {base : Heap} {g' : FD} (F : Fz P w K mg base k f n ks gz g) (q : ∀ xs m r, g' xs m = some r → g xs m = some r) : Fz P w K mg base k f n ks gz g' := by
  obtain ⟨fd, ps, gs, gV, h1, h2, h3⟩ := F.ex
  exact ⟨fd, ps, gs, gV, h1.imp fun vs H Q E h => spZ_imp (fun xs m r _ => q xs m r) vs H Q E h, h2, h3⟩
end
end Z
namespace Z
open PySem PySem.Spec PyProof.Rows L2
variable [Kd]
/-! ### where arguments come from -/
inductive Src where
  | a (i : Nat) | d (i : Nat) | m (i : Nat) | k (i : Nat)
def Src.at_ {α : Type} (us its mv ws : List α) : Src → Option α
  | .a i => us[i]?
  | .d i => its[i]?
  | .m i => mv[i]?
  | .k i => ws[i]?
def pickL {α : Type} (S : List Src) (us its mv ws : List α) : List α := S.filterMap (Src.at_ us its mv ws)
def Src.lt (n d m k : Nat) : Src → Bool
  | .a i => decide (i < n)
  | .d i => decide (i < d)
  | .m i => decide (i < m)
  | .k i => decide (i < k)
theorem Src.some {α : Type} {us its mv ws : List α} {s : Src} (h : s.lt us.length its.length mv.length ws.length = true) : ∃ x, s.at_ us its mv ws = Option.some x := by
  cases s with
  | a i => exact ⟨_, List.getElem?_eq_getElem (of_decide_eq_true (show decide (i < us.length) = true from h))⟩
  | d i => exact ⟨_, List.getElem?_eq_getElem (of_decide_eq_true (show decide (i < its.length) = true from h))⟩
  | m i => exact ⟨_, List.getElem?_eq_getElem (of_decide_eq_true (show decide (i < mv.length) = true from h))⟩
  | k i => exact ⟨_, List.getElem?_eq_getElem (of_decide_eq_true (show decide (i < ws.length) = true from h))⟩
theorem pick_len {α : Type} {us its mv ws : List α} : ∀ {S : List Src}, S.all (Src.lt us.length its.length mv.length ws.length) = true → (pickL S us its mv ws).length = S.length
  | [], _ => rfl
  | s :: S, h => by
    rw [List.all_cons, Bool.and_eq_true] at h
    obtain ⟨x, hx⟩ := Src.some h.1
    unfold pickL
    rw [List.filterMap_cons, hx]
    show (x :: pickL S us its mv ws).length = _
    rw [List.length_cons, List.length_cons, pick_len h.2]
theorem vals_at {α β : Type} {Rel : α → β → Prop} {vs : List α} {us : List β} (hl : vs.length = us.length) (hg : ∀ (i : Nat) (v : α), vs[i]? = some v → ∃ u, us[i]? = some u ∧ Rel v u) (i : Nat) : (vs[i]? = none ∧ us[i]? = none) ∨ ∃ v u, vs[i]? = some v ∧ us[i]? = some u ∧ Rel v u := by
  cases e : vs[i]? with
  | none => exact .inl ⟨rfl, by rw [List.getElem?_eq_none_iff] at e ⊢; omega⟩
  | some v =>
    obtain ⟨u, h1, h2⟩ := hg i v e
    exact .inr ⟨v, u, rfl, h1, h2⟩
theorem pick_vals {vs ds mz zs : List V} {us its mv ws : List Value} (a : Vals vs us) (b : Vals ds its) (c : Vals mz mv) (d : Vals zs ws) : ∀ S : List Src, Vals (pickL S vs ds mz zs) (pickL S us its mv ws)
  | [] => .nil
  | s :: S => by
    have ih := pick_vals a b c d S
    have key : (s.at_ vs ds mz zs = none ∧ s.at_ us its mv ws = none) ∨ ∃ v u, s.at_ vs ds mz zs = some v ∧ s.at_ us its mv ws = some u ∧ RelV v u := by
      cases s with
      | a i => exact vals_at a.length (fun i v h => a.get h) i
      | d i => exact vals_at b.length (fun i v h => b.get h) i
      | m i => exact vals_at c.length (fun i v h => c.get h) i
      | k i => exact vals_at d.length (fun i v h => d.get h) i
    unfold pickL
    rw [List.filterMap_cons, List.filterMap_cons]
    rcases key with ⟨h1, h2⟩ | ⟨v, u, h1, h2, r⟩
    · rw [h1, h2]; exact ih
    · rw [h1, h2]; exact .cons r ih
theorem pick_rvs {K : PySem.W.Frag} {ρ : Lay} {H : Hp} {xs dz mz ys : List Vl} {vs ds ms zs : List V} (a : RVs K ρ H xs vs) (b : RVs K ρ H dz ds) (c : RVs K ρ H mz ms) (d : RVs K ρ H ys zs) : ∀ S : List Src, RVs K ρ H (pickL S xs dz mz ys) (pickL S vs ds ms zs)
  | [] => rfl
  | s :: S => by
    have ih := pick_rvs a b c d S
    have key : (s.at_ xs dz mz ys = none ∧ s.at_ vs ds ms zs = none) ∨ ∃ x v, s.at_ xs dz mz ys = some x ∧ s.at_ vs ds ms zs = some v ∧ RV K ρ H x v := by
      cases s with
      | a i => exact vals_at a.length (fun i v h => a.get h) i
      | d i => exact vals_at b.length (fun i v h => b.get h) i
      | m i => exact vals_at c.length (fun i v h => c.get h) i
      | k i => exact vals_at d.length (fun i v h => d.get h) i
    unfold pickL
    rw [List.filterMap_cons, List.filterMap_cons]
    rcases key with ⟨h1, h2⟩ | ⟨x, v, h1, h2, r⟩
    · rw [h1, h2]; exact ih
    · rw [h1, h2]; exact ⟨v, _, rfl, r, ih⟩
section
variable {P : Program} {w : World} {K : PySem.W.Frag} {mg : Str → Option Value} {base : Heap} {x qual : Str} {params : Arguments} {body : List Stmt} {scope : Scope} {dvs : List V} {kws : List (Str × V)} {f : Addr} {fd : FuncData} {ps : List Str} {k : Nat} {g : FD}
/-- no defaults are asked for -/
theorem fz1 (F : FunD K x qual params body scope [] kws f fd) (G : FnOk P w K mg base (CXk P w) k f fd ps (spZ K ps.length g)) (n : Nat) (ks : List Str) (S : List Src)
    (h : ∀ (kV doc pm : Value) (an : Option Addr) (cdv ct : Value) (us ws : List Value), us.length = n → ws.length = ks.length → bindArgs (PySem.W.fnOf x qual params body scope .none kV doc pm an cdv ct) ⟨us, ks.zip ws⟩ = pure (ps.zip (pickL S us [] [] ws)))
    (hl : S.length = ps.length := by rfl) (hS : S.all (Src.lt n 0 0 ks.length) = true := by rfl) : Fz P w K mg base k f n ks (fun xs ys => pickL S xs [] [] ys) g := by
  obtain ⟨oc, od, dV, kV, doc, pm, an, cdv, ct, osl, rfl, lk, hcd, hD, hK⟩ := F.ex
  rcases hD with ⟨_, rfl⟩ | ⟨e, _⟩
  · refine ⟨_, ps, fun us ws => pickL S us [] [] ws, fun vs zs => pickL S vs [] [] zs, G, ⟨fun s us ws _ l1 l2 => .of_eq (h kV doc pm an cdv ct us ws l1 l2), fun a b => pick_vals a .nil .nil b S⟩, fun ρ H xs vs ys zs l1 l2 a b => ⟨?_, pick_rvs a (show RVs K ρ H [] [] from rfl) (show RVs K ρ H [] [] from rfl) b S⟩⟩
    rw [← hl]
    refine pick_len ?_
    rw [← a.length, ← b.length, l1, l2]
    exact hS
  · exact absurd rfl e
/-- positional defaults, no keyword-only default is asked for -/
theorem fz2 (F : FunD K x qual params body scope dvs kws f fd) (G : FnOk P w K mg base (CXk P w) k f fd ps (spZ K ps.length g)) (n : Nat) (ks : List Str) (S : List Src) (dz : List Vl) (hz : ∀ ρ H, RVs K ρ H dz dvs) (hd : dvs ≠ [])
    (h : ∀ (T : Addr) (kV doc pm : Value) (an : Option Addr) (cdv ct : Value) (us its ws : List Value), us.length = n → its.length = dvs.length → ws.length = ks.length →
      ∃ k, bindArgs (PySem.W.fnOf x qual params body scope (.ref T) kV doc pm an cdv ct) ⟨us, ks.zip ws⟩ = seqItems? (.ref T) >>= k ∧ k (some its.toArray) = pure (ps.zip (pickL S us its [] ws)))
    (hl : S.length = ps.length) (hS : S.all (Src.lt n dvs.length 0 ks.length) = true) : Fz P w K mg base k f n ks (fun xs ys => pickL S xs dz [] ys) g := by
  obtain ⟨its, B⟩ := F.kbindsD n ks (fun {α} us its ws => pickL S us its [] ws) hd (fun a b c => pick_vals a b .nil c S) h
  refine ⟨fd, ps, _, _, G, B, fun ρ H xs vs ys zs l1 l2 a b => ⟨?_, pick_rvs a (hz ρ H) (show RVs K ρ H [] [] from rfl) b S⟩⟩
  rw [← hl]
  refine pick_len ?_
  rw [← a.length, ← b.length, l1, l2]
  exact hS
/-- keyword-only defaults, no positional ones -/
theorem fz3 (F : FunD K x qual params body scope [] kws f fd) (G : FnOk P w K mg base (CXk P w) k f fd ps (spZ K ps.length g)) (n : Nat) (ks : List Str) (ms : List (Str × V)) (S : List Src) (mz : List Vl) (hz : ∀ ρ H, RVs K ρ H mz (ms.map (·.2))) (hk : kws ≠ []) (hms : ∀ q ∈ ms, q ∈ kws)
    (h : ∀ (D : Addr) (doc pm : Value) (an : Option Addr) (cdv ct : Value) (us mv ws : List Value), us.length = n → mv.length = ms.length → ws.length = ks.length →
      KwChain D ((ms.map (·.1)).zip mv) (bindArgs (PySem.W.fnOf x qual params body scope .none (.ref D) doc pm an cdv ct) ⟨us, ks.zip ws⟩) (ps.zip (pickL S us [] mv ws)))
    (hl : S.length = ps.length) (hS : S.all (Src.lt n 0 ms.length ks.length) = true) : Fz P w K mg base k f n ks (fun xs ys => pickL S xs [] mz ys) g := by
  obtain ⟨mv, B⟩ := F.kbinds0 n ks ms (fun {α} us mv ws => pickL S us [] mv ws) hk hms (fun a b c => pick_vals a .nil b c S) h
  refine ⟨fd, ps, _, _, G, B, fun ρ H xs vs ys zs l1 l2 a b => ⟨?_, pick_rvs a (show RVs K ρ H [] [] from rfl) (hz ρ H) b S⟩⟩
  rw [← hl]
  refine pick_len ?_
  rw [← a.length, ← b.length, List.length_map, l1, l2]
  exact hS
/-- both -/
theorem fz4 (F : FunD K x qual params body scope dvs kws f fd) (G : FnOk P w K mg base (CXk P w) k f fd ps (spZ K ps.length g)) (n : Nat) (ks : List Str) (ms : List (Str × V)) (S : List Src) (dz mz : List Vl) (hdz : ∀ ρ H, RVs K ρ H dz dvs) (hz : ∀ ρ H, RVs K ρ H mz (ms.map (·.2))) (hd : dvs ≠ []) (hk : kws ≠ []) (hms : ∀ q ∈ ms, q ∈ kws)
    (h : ∀ (T D : Addr) (doc pm : Value) (an : Option Addr) (cdv ct : Value) (us its mv ws : List Value), us.length = n → its.length = dvs.length → mv.length = ms.length → ws.length = ks.length →
      ∃ k, bindArgs (PySem.W.fnOf x qual params body scope (.ref T) (.ref D) doc pm an cdv ct) ⟨us, ks.zip ws⟩ = seqItems? (.ref T) >>= k ∧ KwChain D ((ms.map (·.1)).zip mv) (k (some its.toArray)) (ps.zip (pickL S us its mv ws)))
    (hl : S.length = ps.length) (hS : S.all (Src.lt n dvs.length ms.length ks.length) = true) : Fz P w K mg base k f n ks (fun xs ys => pickL S xs dz mz ys) g := by
  obtain ⟨its, mv, B⟩ := F.kbinds n ks ms (fun {α} us its mv ws => pickL S us its mv ws) hd hk hms (fun a b c d => pick_vals a b c d S) h
  refine ⟨fd, ps, _, _, G, B, fun ρ H xs vs ys zs l1 l2 a b => ⟨?_, pick_rvs a (hdz ρ H) (hz ρ H) b S⟩⟩
  rw [← hl]
  refine pick_len ?_
  rw [← a.length, ← b.length, List.length_map, l1, l2]
  exact hS
end
/-! ### the module's constants -/
mutual
/-- the value u of the module, told as a tree -/
def kv (K : PySem.W.Frag) : Vl → Value → Bool
  | .non, .none => true
  | .bl b, .bool c => b == c
  | .int i, .int j _ => decide (i = j)
  | .str x, .str y _ => decide (x = y)
  | .ty n, .type m => decide (n = m)
  | .glo x, .ref a => decide (a = He.ga K x)
  | .tup xs, .ref a => (match K.lookup a with
    | some ⟨.type c, _, .seq its _, _⟩ => decide (c = "tuple") && (decide (its.size ≤ sizeLine) && kvs K xs its.toList)
    | _ => false)
  | .frl xs, .ref a => (match K.lookup a with
    | some ⟨.type c, none, .seq its _, _⟩ => decide (c = "list") && (decide (its.size ≤ sizeLine) && kvs K xs its.toList)
    | _ => false)
  | _, _ => false
def kvs (K : PySem.W.Frag) : List Vl → List Value → Bool
  | [], [] => true
  | x :: xs, u :: us => kv K x u && kvs K xs us
  | _, _ => false
end
mutual
theorem kv_ok {K : PySem.W.Frag} : ∀ {x : Vl} {u : Value}, kv K x u = true → ∃ v, RelV v u ∧ ∀ ρ H, RV K ρ H x v
  | .non, .none, _ => ⟨.non, rfl, fun _ _ => rfl⟩
  | .bl b, .bool c, h => ⟨.bl b, by rw [eq_of_beq (show (b == c) = true from h)]; rfl, fun _ _ => rfl⟩
  | .int i, .int j t, h => ⟨.int i, ⟨t, by rw [of_decide_eq_true (show decide (i = j) = true from h)]⟩, fun _ _ => rfl⟩
  | .str x, .str y t, h => ⟨.str x, ⟨t, by rw [of_decide_eq_true (show decide (x = y) = true from h)]⟩, fun _ _ => rfl⟩
  | .ty n, .type m, h => ⟨.ty n, by rw [of_decide_eq_true (show decide (n = m) = true from h)]; rfl, fun _ _ => rfl⟩
  | .glo x, .ref a, h => ⟨.ref (He.ga K x), by rw [of_decide_eq_true (show decide (a = He.ga K x) = true from h)]; rfl, fun _ _ => rfl⟩
  | .tup xs, .ref a, h => by
    have h' : (match K.lookup a with
      | some ⟨.type c, _, .seq its _, _⟩ => decide (c = "tuple") && (decide (its.size ≤ sizeLine) && kvs K xs its.toList)
      | _ => false) = true := h
    split at h'
    · rename_i c od its n sl q
      rw [Bool.and_eq_true, Bool.and_eq_true, decide_eq_true_eq, decide_eq_true_eq] at h'
      obtain ⟨rfl, h2, h3⟩ := h'
      obtain ⟨vs, r1, r2⟩ := kvs_ok h3
      exact ⟨.ref a, rfl, fun ρ H => ⟨a, vs, rfl, .inr ⟨_, its, n, q, rfl, rfl, h2, r1⟩, r2 ρ H⟩⟩
    · cases h'
  | .frl xs, .ref a, h => by
    have h' : (match K.lookup a with
      | some ⟨.type c, none, .seq its _, _⟩ => decide (c = "list") && (decide (its.size ≤ sizeLine) && kvs K xs its.toList)
      | _ => false) = true := h
    split at h'
    · rename_i c its n sl q
      rw [Bool.and_eq_true, Bool.and_eq_true, decide_eq_true_eq, decide_eq_true_eq] at h'
      obtain ⟨rfl, h2, h3⟩ := h'
      obtain ⟨vs, r1, r2⟩ := kvs_ok h3
      exact ⟨.ref a, rfl, fun ρ H => ⟨a, vs, rfl, .inr ⟨_, its, n, q, rfl, rfl, rfl, h2, r1⟩, r2 ρ H⟩⟩
    · cases h'
theorem kvs_ok {K : PySem.W.Frag} : ∀ {xs : List Vl} {us : List Value}, kvs K xs us = true → ∃ vs, Vals vs us ∧ ∀ ρ H, RVs K ρ H xs vs
  | [], [], _ => ⟨[], .nil, fun _ _ => rfl⟩
  | x :: xs, u :: us, h => by
    rw [kvs, Bool.and_eq_true] at h
    obtain ⟨v, h1, h2⟩ := kv_ok h.1
    obtain ⟨vs, h3, h4⟩ := kvs_ok h.2
    exact ⟨v :: vs, .cons h1 h3, fun ρ H => ⟨v, vs, rfl, h2 ρ H, h4 ρ H⟩⟩
end
/-- the module's name x is the constant y -/
def ckGlob (x : Str) (y : Vl) (K : PySem.W.Frag) : Bool := match PySem.W.nsIn K mainGlobals x with
  | some (some u) => kv K y u
  | _ => false
theorem ckGlob_ok {K : PySem.W.Frag} {h : Heap} {mg : Str → Option Value} (X : K.In h) (G : h.Ns mainGlobals mg) {x : Str} {y : Vl} (c : ckGlob x y K = true) : ∃ u v, mg x = some u ∧ RelV v u ∧ ∀ ρ H, RV K ρ H y v := by
  unfold ckGlob at c
  split at c
  · rename_i u e
    obtain ⟨v, h1, h2⟩ := kv_ok c
    exact ⟨u, v, PySem.W.mg_of X G e, h1, h2⟩
  · cases c
/-! ### defs by where they stand -/
structure DZ where
  adr : PySem.W.Frag → Addr
  name : Str
  qual : Str
  params : Arguments
  body : List Stmt
  scope : Scope
  dfl : List He.Dv := []
  kwd : List (Str × He.Dv) := []
def DZ.val (d : DZ) : He.FnW := some (d.name, d.qual, d.params, .stmts d.body, d.scope, mainGlobals, [], builtinsNs)
def DZ.dvs (K : PySem.W.Frag) (d : DZ) : List V := d.dfl.map (He.Dv.v K)
def DZ.kws (K : PySem.W.Frag) (d : DZ) : List (Str × V) := d.kwd.map fun q => (q.1, q.2.v K)
def fnZ (K : PySem.W.Frag) (a : Addr) : He.FnW := match K.lookup a with
  | some ⟨_, _, .func fd, _⟩ => some (fd.name, fd.qualname, fd.params, fd.body, fd.scope, fd.globals, fd.closure, fd.builtins)
  | _ => none
def DZ.ok (K : PySem.W.Frag) (d : DZ) : Bool := PySem.W.keepIn K (.ref (d.adr K)) && (match K.lookup (d.adr K) with
  | some ⟨_, _, .func fd, _⟩ => PySem.W.codeIn K fd.code d.qual && (He.dflB K fd.defaults (d.dvs K) && He.kwdB K fd.kwdefaults (d.kws K))
  | _ => false)
theorem DZ.funD {K : PySem.W.Frag} {d : DZ} (e : fnZ K (d.adr K) = d.val) (c : d.ok K = true) : ∃ fd, FunD K d.name d.qual d.params d.body d.scope (d.dvs K) (d.kws K) (d.adr K) fd := by
  unfold DZ.ok at c
  unfold fnZ at e
  rw [Bool.and_eq_true] at c
  obtain ⟨kp, c2⟩ := c
  split at c2
  · rename_i oc od fd osl q
    rw [q] at e
    obtain ⟨n1, n2, n3, n4, n5, n6, n7, n8, n9, n10, n11, n12, n13, n14, n15⟩ := fd
    have e2 : (some (n1, n2, n3, n4, n5, n6, n7, n15) : He.FnW) = some (d.name, d.qual, d.params, .stmts d.body, d.scope, mainGlobals, [], builtinsNs) := e
    simp only [Option.some.injEq, Prod.mk.injEq] at e2
    obtain ⟨rfl, rfl, rfl, rfl, rfl, rfl, rfl, rfl⟩ := e2
    rw [Bool.and_eq_true, Bool.and_eq_true] at c2
    obtain ⟨k1, k3, k4⟩ := c2
    exact ⟨_, ⟨oc, od, n8, n9, n10, n11, n12, n13, n14, osl, rfl, q, k1, He.dflB_ok k3, He.kwdB_ok k4⟩, kp⟩
  · cases c2
/-! ### the __init__s of own errors: they bear the cell of their class -/
structure EZ where
  adr : PySem.W.Frag → Addr
  cls : PySem.W.Frag → Addr
  qual : Str
  params : Arguments
  body : List Stmt
  scope : Scope
  file : Str
def EZ.val (d : EZ) : He.FnW := some ("__init__", d.qual, d.params, .stmts d.body, d.scope, mainGlobals, [("__class__", 0)], builtinsNs)
def fnE (K : PySem.W.Frag) (a : Addr) : He.FnW := match K.lookup a with
  | some ⟨_, _, .func fd, _⟩ => some (fd.name, fd.qualname, fd.params, fd.body, fd.scope, fd.globals, fd.closure.map (fun p => (p.1, 0)), fd.builtins)
  | _ => none
def codeOk (K : PySem.W.Frag) (file : Str) : Value → Bool
  | .ref c => (match K.lookup c with
    | some ⟨_, _, .fields (vs : Array Value), _⟩ => (match (vs[2]? : Option Value) with
      | some (.str f _) => decide (f = file)
      | _ => false)
    | _ => false)
  | _ => false
def cellOk (K : PySem.W.Frag) (C : Addr) (c : Addr) : Bool := match K.lookup c with
  | some ⟨_, _, .cell (some (.ref D)), _⟩ => decide (D = C)
  | _ => false
def noneB : Value → Bool
  | .none => true
  | _ => false
def EZ.ok (K : PySem.W.Frag) (d : EZ) : Bool := match K.lookup (d.adr K) with
  | some ⟨_, _, .func fd, _⟩ => PySem.W.codeIn K fd.code d.qual && (noneB fd.defaults && (codeOk K d.file fd.code && fd.closure.all fun p => cellOk K (d.cls K) p.2))
  | _ => false
theorem EZ.facts {K : PySem.W.Frag} {d : EZ} (e : fnE K (d.adr K) = d.val) (c : d.ok K = true) : ∃ (cc cda : Addr) (kV doc pm ct : Value) (an : Option Addr) (oc : Value) (od : Option Addr) (osl : Array (Option Value)) (vs : Array Value) (tf : Tok) (ccl : Value) (cdd : Option Addr) (ccs : Array (Option Value)) (cl : Value) (cld : Option Addr) (csl : Array (Option Value)),
    K.lookup (d.adr K) = some ⟨oc, od, .func (PySem.W.fnX "__init__" d.qual d.params d.body d.scope [("__class__", cc)] .none kV doc pm an (.ref cda) ct), osl⟩ ∧ PySem.W.codeIn K (.ref cda) d.qual = true ∧ K.lookup cda = some ⟨ccl, cdd, .fields vs, ccs⟩ ∧ vs[2]? = some (.str d.file tf) ∧ K.lookup cc = some ⟨cl, cld, .cell (some (.ref (d.cls K))), csl⟩ := by
  unfold EZ.ok at c
  unfold fnE at e
  split at c
  · rename_i oc od fd osl q
    rw [q] at e
    obtain ⟨n1, n2, n3, n4, n5, n6, n7, n8, n9, n10, n11, n12, n13, n14, n15⟩ := fd
    have e2 : (some (n1, n2, n3, n4, n5, n6, n7.map (fun p => (p.1, 0)), n15) : He.FnW) = (some (("__init__" : Str), d.qual, d.params, FuncBody.stmts d.body, d.scope, mainGlobals, [(("__class__" : Str), (0 : Addr))], builtinsNs) : He.FnW) := e
    simp only [Option.some.injEq, Prod.mk.injEq] at e2
    obtain ⟨rfl, rfl, rfl, rfl, rfl, rfl, e7, rfl⟩ := e2
    obtain ⟨cc, rfl⟩ : ∃ cc : Addr, n7 = [(("__class__" : Str), cc)] := by
      cases n7 with
      | nil => cases e7
      | cons p r =>
        cases r with
        | nil =>
          obtain ⟨x, cc⟩ := p
          simp only [List.map_cons, List.map_nil, List.cons.injEq, Prod.mk.injEq] at e7
          exact ⟨cc, by rw [e7.1.1]⟩
        | cons p2 r => simp at e7
    simp only [Bool.and_eq_true, List.all_cons, List.all_nil, Bool.and_true] at c
    obtain ⟨k1, k2, k3, k4⟩ := c
    have h8 : n8 = .none := by
      unfold noneB at k2
      split at k2
      · rfl
      · cases k2
    subst h8
    unfold codeOk at k3
    split at k3
    · rename_i cda
      split at k3
      · rename_i ccl cdd vs ccs q2
        split at k3
        · rename_i f tf q3
          rw [decide_eq_true_eq] at k3
          subst k3
          unfold cellOk at k4
          split at k4
          · rename_i cl cld D csl q4
            rw [decide_eq_true_eq] at k4
            subst k4
            exact ⟨cc, cda, _, _, _, _, _, oc, od, osl, vs, tf, ccl, cdd, ccs, cl, cld, csl, q, k1, q2, q3, q4⟩
          · cases k4
        · cases k3
      · cases k3
    · cases k3
  · cases c
/-! ### the hook -/
abbrev AlZ : Type := Bool × List He.FnW × List He.FnW
abbrev CkL : Type := List (PySem.W.Frag → Bool)
def obsZ (cks : CkL) (ds : List DZ) (es : List EZ) (K : PySem.W.Frag) : AlZ := ((cks.all fun c => c K) && ((ds.all fun d => d.ok K) && es.all fun d => d.ok K), ds.map fun d => fnZ K (d.adr K), es.map fun d => fnE K (d.adr K))
def valZ (ds : List DZ) (es : List EZ) : AlZ := (true, ds.map DZ.val, es.map EZ.val)
def SaysZ (cks : CkL) (ds : List DZ) (es : List EZ) (K : PySem.W.Frag) : Prop := obsZ cks ds es K = valZ ds es
/-- what the head's run tells of: what the module's names lead to, and the interpreter's own table -/
def asZ (g : Addr → Option Obj) (n : Nat) : List Addr := cStatics :: He.asD g n
def obsZG (n : Nat) (cks : CkL) (ds : List DZ) (es : List EZ) (g : Addr → Option Obj) : AlZ := obsZ cks ds es (He.frG g (asZ g n))
def hookZ (n : Nat) (cks : CkL) (ds : List DZ) (es : List EZ) : PySem.W.Hook where
  α := AlZ
  obs := fun s => obsZG n cks ds es s.heap.get?
  val := fun _ => valZ ds es
  says := fun _ h => ∃ K : PySem.W.Frag, K.In h ∧ SaysZ cks ds es K
  of := fun _ _ e => ⟨_, He.frG_in, e⟩
  keeps := fun _ _ _ ⟨K, hK, c⟩ k => ⟨K, PySem.W.Frag.In.keeps hK k, c⟩
theorem obsZG_eq {n : Nat} {cks : CkL} {ds : List DZ} {es : List EZ} {g : Addr → Option Obj} {s : Shared} (h : ∀ a, g a = s.heap.get? a) : obsZG n cks ds es g = (hookZ n cks ds es).obs s := by
  have e : g = s.heap.get? := funext h
  rw [e] <;> rfl
section
variable {cks : CkL} {ds : List DZ} {es : List EZ} {K : PySem.W.Frag}
theorem SaysZ.all (c : SaysZ cks ds es K) : (cks.all fun c => c K) = true ∧ (ds.all fun d => d.ok K) = true ∧ (es.all fun d => d.ok K) = true := by
  have c1 : ((cks.all fun c => c K) && ((ds.all fun d => d.ok K) && es.all fun d => d.ok K)) = true := congrArg (fun z : AlZ => z.1) c
  rw [Bool.and_eq_true, Bool.and_eq_true] at c1
  exact c1
theorem SaysZ.fact (c : SaysZ cks ds es K) (i : Nat) {f : PySem.W.Frag → Bool} (h : cks[i]? = some f := by rfl) : f K = true := List.all_eq_true.mp c.all.1 f (List.mem_of_getElem? h)
theorem SaysZ.def_ (c : SaysZ cks ds es K) (i : Nat) {d : DZ} (h : ds[i]? = some d := by rfl) : ∃ fd, FunD K d.name d.qual d.params d.body d.scope (d.dvs K) (d.kws K) (d.adr K) fd := by
  have c2 : (ds.map fun d => fnZ K (d.adr K)) = ds.map DZ.val := congrArg (fun z : AlZ => z.2.1) c
  have e2 : (ds.map fun d => fnZ K (d.adr K))[i]? = (ds.map DZ.val)[i]? := by rw [c2]
  rw [List.getElem?_map, List.getElem?_map, h] at e2
  exact DZ.funD (Option.some.inj e2) (List.all_eq_true.mp c.all.2.1 d (List.mem_of_getElem? h))
theorem SaysZ.err_ (c : SaysZ cks ds es K) (i : Nat) {d : EZ} (h : es[i]? = some d := by rfl) : fnE K (d.adr K) = d.val ∧ d.ok K = true := by
  have c2 : (es.map fun d => fnE K (d.adr K)) = es.map EZ.val := congrArg (fun z : AlZ => z.2.2) c
  have e2 : (es.map fun d => fnE K (d.adr K))[i]? = (es.map EZ.val)[i]? := by rw [c2]
  rw [List.getElem?_map, List.getElem?_map, h] at e2
  exact ⟨Option.some.inj e2, List.all_eq_true.mp c.all.2.2 d (List.mem_of_getElem? h)⟩
end
/-! ### the end -/
/-- the law's call: g answers True on the script -/
theorem call_end {P : Program} {w : World} {K : PySem.W.Frag} {mg mb : Str → Option Value} {k : Nat} {fa a : Addr} {fd : FuncData} {x : Str} {g : FD} {s₁ : Shared} {vs : List Value} {ns : List Int}
    (KX : K.In s₁.heap) (hns : s₁.heap.Ns mainGlobals mg) (hb : s₁.heap.Ns builtinsNs mb) (hbb : ∀ x : Str, x ≠ "__name__" → mb x = bootBuiltins x) (hlim : s₁.heap.NoLimit) (hg : s₁.gens = #[])
    (ha : s₁.heap.get? a = some { cls := .type "list", data := .seq vs.toArray }) (hi : IntsAre vs ns) (hl : ns.length ≤ sizeLine) (hr : Room k callerA)
    (F : ∀ base : Heap, K.In base → base.Ns mainGlobals mg → FnOk P w K mg base (L2.CX P w) k fa fd [x] (spZ K 1 g)) (hbind : ∀ (s : Shared) (u : Value), BindsTo s fd ⟨[u], []⟩ [(x, u)])
    (hlaw : ∃ m', g [.frl (ns.map Vl.int)] [] = some (.ok (.bl true), m')) :
    codeAny (model P w) callerA (.call (.ref fa) ⟨[.ref a], []⟩) (fun r s' => r = .ok (.ret (.bool true)) ∧ OldK s₁.heap s'.heap ∧ s'.os = s₁.os ∧ AllBare s'.gens) s₁ := by
  obtain ⟨m', hlaw⟩ := hlaw
  have rv := vals_ints hi
  have lenV : vs.length = ns.length := hi.length
  have rints : ∀ (ρ : Lay) (H : Hp) (l : List Int), RVs K ρ H (l.map Vl.int) (l.map V.int) := fun ρ H l => by
    induction l with
    | nil => rfl
    | cons i l ih => exact ⟨_, _, rfl, rfl, ih⟩
  -- nothing but the script may be tracked
  have core : ∀ H : Hp, (∀ b, H b = none ∨ b = a ∧ ∃ o xs, H b = some (.frz o (.lst xs))) → LstAt K ⟨[], []⟩ H a (ns.map V.int) → HOk P w H s₁.heap → (H a ≠ none → K.lookup a = none) →
      codeAny (model P w) callerA (.call (.ref fa) ⟨[.ref a], []⟩) (fun r s' => r = .ok (.ret (.bool true)) ∧ OldK s₁.heap s'.heap ∧ s'.os = s₁.os ∧ AllBare s'.gens) s₁ := by
    intro H hO hS hok hK
    have isA : ∀ {b : Addr}, H b ≠ none → b = a := fun {b} h => (hO b).elim (fun z => absurd z h) fun z => z.1
    have plain : ∀ {b : Addr} {o : Obj}, s₁.heap.get? b = some o → (b = a → H a = none) → (hidT s₁.heap H).get? b = some o := fun {b o} e h => by
      refine hidT_get e ?_
      by_cases q : H b = none
      · exact q
      · have := isA q
        subst this
        exact absurd (h rfl) q
    have nsK : ∀ {b : Addr} {mm : Str → Option Value}, s₁.heap.Ns b mm → (hidT s₁.heap H).Ns b mm := fun {b mm} ⟨o, es, ep, e, d, r⟩ => ⟨o, es, ep, plain e (fun q => by
      subst q
      rw [ha] at e
      cases e
      cases (show Data.seq vs.toArray _ = Data.dict es ep from d)), d, r⟩
    have hKb : K.In (hidT s₁.heap H) := fun b o e => plain (KX b o e) fun q => by
      subst q
      by_cases z : H b = none
      · exact z
      · rw [hK z] at e
        cases e
    obtain ⟨mc, hm1, hm2⟩ := hlim
    have e0 : Env0 P w K mg (hidT s₁.heap H) callerA [] s₁ H := ⟨rfl, ⟨hKb, nsK hns, ⟨mb, nsK hb, hbb⟩, ⟨mc, nsK hm1, hm2⟩⟩, fun b o e => of_hidT e, Nat.le_of_eq (hidT_size _ _), trivial, (fun b hb => nomatch hb), hok, .of_eq hg⟩
    have sp : spZ K 1 g [.ref a] H (fun v _ => v = .bl true) (fun _ _ _ => False) := ⟨rfl, ⟨[], []⟩, [], [.frl (ns.map Vl.int)], _, m', ⟨List.nodup_nil, rfl, fun n c b h _ => by simp at h, (fun b hb => nomatch hb)⟩, ⟨_, _, rfl, ⟨a, _, rfl, hS, rints _ _ ns⟩, rfl⟩, hlaw, fun ρ' H' _ _ v rv' => rv'⟩
    refine codeAny_mono ((F _ hKb (nsK hns)).run callerA [] s₁ H ⟨[.ref a], []⟩ [.ref a] [.ref a] _ _ hr e0 (hbind s₁ (.ref a)) (.cons rfl .nil) sp) fun r s' h => ?_
    match r, h with
    | .error e, h => exact (let ⟨_, _, _, _, _, _, _, _, _, _, _, _, z⟩ := h; z.elim)
    | .ok (.ret u), ⟨v, H', os, bare, un, hok', r', q⟩ =>
      have q' : v = .bl true := q
      subst q'
      obtain rfl : u = Value.bool true := r'
      refine ⟨rfl, OldK.of_keep fun b o e => ?_, os, bare⟩
      rcases hO b with z | ⟨_, ob, xs, z⟩
      · exact un.keep b o e z (fun q => nomatch q) (by simp)
      · obtain ⟨e1, _⟩ := hok b _ z
        obtain ⟨e2, _⟩ := hok' b _ (un.frzs b ob _ z)
        rw [e] at e1
        cases e1
        exact e2
  by_cases hk : K.lookup a = none
  · refine core (fun b => if b = a then some (.frz { cls := .type "list", data := .seq vs.toArray } (.lst (ns.map V.int))) else none) (fun b => ?_) (.inl ⟨(fun q => nomatch q), _, if_pos rfl⟩) (fun b u z => ?_) fun _ => hk
    · by_cases hb : b = a
      · exact .inr ⟨hb, _, _, if_pos hb⟩
      · exact .inl (if_neg hb)
    · by_cases hb : b = a
      · have z' := (if_pos hb).symm.trans z
        cases z'
        subst hb
        exact ⟨ha, by rw [List.length_map]; exact hl, vs, _, rv, ha⟩
      · have z' := (if_neg hb).symm.trans z
        cases z'
  · obtain ⟨o, hk⟩ := Option.ne_none_iff_exists'.mp hk
    have e := KX a o hk
    rw [ha] at e
    cases e
    refine core (fun _ => none) (fun _ => .inl rfl) (.inr ⟨_, vs.toArray, _, hk, rfl, rfl, rfl, by rw [List.size_toArray, lenV]; exact hl, by simpa using rv⟩) (fun b u z => ?_) fun z => absurd rfl z
    have z' : (none : Option HO) = some u := z
    cases z'
/-- a law: the def's reading g, and that it answers True -/
theorem walk_end {l : PySem.W.OpenLaw} {n k : Nat} {q : Program} {loose : List Str} {XP : (Str → Option Value) → Heap → Prop} {YP : World → Heap → Prop} {d : DefRec} {x : Str} {g : FD}
    (hn : l.most = some n) (hn2 : n ≤ sizeLine) (hdf : d.params.defaults = []) (hr : Room k callerA)
    (F : ∀ (w : World) (mg : Str → Option Value) (fa : Addr) (h : Heap), YP w h → h.Ns mainGlobals mg → mg d.name = some (.ref fa) →
      ∃ (K : PySem.W.Frag) (fd : FuncData), K.In h ∧ (∀ (s : Shared) (u : Value), BindsTo s fd ⟨[u], []⟩ [(x, u)]) ∧ ∀ base : Heap, K.In base → base.Ns mainGlobals mg → FnOk l.prog w K mg base (L2.CX l.prog w) k fa fd [x] (spZ K 1 g))
    (hlaw : ∀ ns : List Int, ns.length ≤ n → (∀ z ∈ ns, Builtin.Int.intBits z ≤ 1048576) → ∃ m', g [.frl (ns.map Vl.int)] [] = some (.ok (.bl true), m')) :
    PySem.W.WalkO q loose XP YP l.row.toRowW d [] (fun f vs => PySem.call f vs) := by
  refine Att.attach_callB hn hdf fun w s₀ s₁ mg mb fa o pm cd doc a vs ns G Y ho hd hcd hmg hobj hints hlen hbits hg => ?_
  obtain ⟨K, fd, KX, hb, hF⟩ := F w mg fa _ Y G.T.g hmg
  exact call_end KX G.T.g G.T.b G.T.builtins G.T.nolimit hg hobj hints (Nat.le_trans hlen hn2) hr hF hb (hlaw ns hlen hbits)
end Z
namespace Z
open PySem PySem.Spec PyProof.Rows L2
variable [Kd]
/-! ### facts that the head's run checks -/
abbrev Ck := PySem.W.Frag → Bool
def ckF (f : He.Fa) : Ck := fun K => f.ok K
abbrev ckGlo (x : Str) : Ck := ckF (.glo x)
abbrev ckFree (x : Str) : Ck := ckF (.free x)
abbrev ckMeth (c m : Str) : Ck := ckF (.meth c m)
abbrev ckMkr (c : Str) : Ck := ckF (.mkr c)
abbrev ckCls (c : Str) : Ck := ckF (.cls c)
def ckFld (cs : List Str) (f : Str) : Ck := fun K => cs.all fun c => (He.Fa.cls c).ok K && (He.Fa.noat c f).ok K
theorem ckFld_ok {K : PySem.W.Frag} {cs : List Str} {f : Str} (h : ckFld cs f K = true) : ClsF K cs f := fun c hc => by
  have := List.all_eq_true.mp h c hc
  rw [Bool.and_eq_true] at this
  exact ⟨He.cls_ok this.1, He.noat_ok this.2⟩
def ckIns (cs : List Str) : Ck := fun K => cs.all fun c => (He.Fa.cls c).ok K && (He.eqO (PySem.W.findIn K (.ref (He.ga K c)) "__class__") (some (some (.builtin "object.__class__"))) && (He.eqO (PySem.W.specialIn K (.builtin "object.__class__") "__get__") (some (some (.builtin "getset_descriptor.__get__"))) &&
  (decide (PySem.W.takesIn K (.builtin "object.__class__") = some true) && decide (PySem.W.mroIn K (He.ga K c) (.type "object") = some true))))
theorem ckIns_ok {K : PySem.W.Frag} {cs : List Str} (h : ckIns cs K = true) : InsA K cs := fun c hc => by
  have := List.all_eq_true.mp h c hc
  simp only [Bool.and_eq_true, decide_eq_true_eq] at this
  exact ⟨He.cls_ok this.1, He.eqO_ok this.2.1, He.eqO_ok this.2.2.1, this.2.2.2.1, this.2.2.2.2⟩
/-- isinstance's table -/
def kitT (tb : List (TD × TD × Bool)) : Kit := fun t u => match tb.find? fun p => decide (p.1 = t) && decide (p.2.1 = u) with
  | some p => some p.2.2
  | none => none
def ckKit (tb : List (TD × TD × Bool)) : Ck := fun K => tb.all fun p => decide (PySem.W.kitOne K (p.1.val K) (p.2.1.val K) = some p.2.2)
theorem ckKit_ok {K : PySem.W.Frag} {tb : List (TD × TD × Bool)} (h : ckKit tb K = true) : KitOk K (kitT tb) := fun t u b e => by
  unfold kitT at e
  split at e
  · rename_i p hp
    cases e
    have h1 := List.all_eq_true.mp h p (List.mem_of_find?_eq_some hp)
    have h2 := List.find?_some hp
    simp only [Bool.and_eq_true, decide_eq_true_eq] at h1 h2
    rw [← h2.1, ← h2.2]
    exact h1
  · cases e
def ckOwn (c mn : Str) (ts : List TD) : Ck := fun K => He.eqO (PySem.W.findIn K (.ref (He.ga K c)) mn) (some (some (.ref (He.ma K (He.ga K c) mn)))) && (PySem.W.isFn K (.ref (He.ma K (He.ga K c) mn)) && ts.all fun t => PySem.W.notFirst K (He.ga K c) (t.val K))
theorem ckOwn_ok {K : PySem.W.Frag} {c mn : Str} {ts : List TD} (h : ckOwn c mn ts K = true) : OwnM K c mn (He.ma K (He.ga K c) mn) ts := by
  unfold ckOwn at h
  rw [Bool.and_eq_true, Bool.and_eq_true] at h
  exact ⟨He.eqO_ok h.1, h.2.1, fun t ht => List.all_eq_true.mp h.2.2 t ht⟩
/-- the function of a property -/
def prA (K : PySem.W.Frag) (c f : Str) : Addr := match PySem.W.recIn K (He.ma K (He.ga K c) f) "property" with
  | some (.ref g :: _) => g
  | _ => 0
def ckProp (c f : Str) : Ck := fun K => He.eqO (PySem.W.findIn K (.ref (He.ga K c)) f) (some (some (.ref (He.ma K (He.ga K c) f)))) && (He.eqO (PySem.W.specialIn K (.ref (He.ma K (He.ga K c) f)) "__get__") (some (some (.builtin "property.__get__"))) &&
  (decide (PySem.W.takesIn K (.ref (He.ma K (He.ga K c) f)) = some true) && (match PySem.W.recIn K (He.ma K (He.ga K c) f) "property" with
    | some (.ref _ :: _) => true
    | _ => false)))
theorem ckProp_ok {K : PySem.W.Frag} {c f : Str} (h : ckProp c f K = true) : PropOf K (He.ga K c) f (He.ma K (He.ga K c) f) (prA K c f) := by
  unfold ckProp at h
  simp only [Bool.and_eq_true, decide_eq_true_eq] at h
  refine ⟨He.eqO_ok h.1, He.eqO_ok h.2.1, h.2.2.1, ?_⟩
  have h4 := h.2.2.2
  split at h4
  · rename_i g rest q
    refine ⟨rest, ?_⟩
    unfold prA
    rw [q]
  · cases h4
/-- the class c's constant f -/
structure CV (K : PySem.W.Frag) (c f : Str) (y : Vl) : Prop where
  ex : ∃ (mc u : Value) (v : V), ClX.CRead K (He.ga K c) mc ∧ ClX.CVal K (He.ga K c) mc f v u ∧ ∀ ρ H, RV K ρ H y v
def ckCV (c f : Str) (y : Vl) : Ck := fun K => PySem.W.readsIn K (He.ga K c) (.type "type") && (He.eqO (PySem.W.specialIn K (.ref (He.ga K c)) "__getattribute__") (some (some (.builtin "type.__getattribute__"))) && (match PySem.W.findCls K (.ref (He.ga K c)) (.type "type") f with
  | some (.val u) => kv K y u
  | _ => false))
theorem ckCV_ok {K : PySem.W.Frag} {c f : Str} {y : Vl} (h : ckCV c f y K = true) : CV K c f y := by
  unfold ckCV at h
  rw [Bool.and_eq_true, Bool.and_eq_true] at h
  obtain ⟨h1, h2, h3⟩ := h
  split at h3
  · rename_i u q
    obtain ⟨v, r1, r2⟩ := kv_ok h3
    exact ⟨.type "type", u, v, ⟨h1, He.eqO_ok h2⟩, ⟨q, r1⟩, r2⟩
  · cases h3
/-- the module's constant x -/
structure GV (K : PySem.W.Frag) (mg : Str → Option Value) (x : Str) (y : Vl) : Prop where
  ex : ∃ u v, mg x = some u ∧ RelV v u ∧ ∀ ρ H, RV K ρ H y v
theorem gv_ok {K : PySem.W.Frag} {h : Heap} {mg : Str → Option Value} (X : K.In h) (G : h.Ns mainGlobals mg) {x : Str} {y : Vl} (c : ckGlob x y K = true) : GV K mg x y := ⟨ckGlob_ok X G c⟩
section
variable {X : Cx} {x c f : Str} {y : Vl} {pos : Pos} {e a b : Expr} {de da db : DE} {k : Nat}
theorem se_con (hg : Gl X x) (h : GV X.K X.mg x y) (hd : (x == ("__debug__" : Str)) = false := by decide) : SE X (.Name x pos) (dC y) := by
  obtain ⟨u, v, h1, h2, h3⟩ := h.ex
  exact se_glob hg h1 h2 h3 hd
theorem se_cv (he : SE X e de) (h : CV X.K c f y) (hab : attributeBase e f X.env (eval e X.env) = eval e X.env := by rfl) : SE X (.Attribute e f pos) (dCV c y de) := by
  obtain ⟨mc, u, v, h1, h2, h3⟩ := h.ex
  exact se_cval he h1 h2 h3 hab
theorem u64 {A : Around} (hr : Room k A) : A.units + 64 < cLine := hr.units
theorem u65 {A : Around} (hr : Room k A) : A.units + 65 < cLine := by have := hr.un; omega
end
end Z
namespace Z
open PySem PySem.Spec PyProof.Rows L2
variable [Kd]
/-! ### walks over what may change: the i-th item by the memory of that turn -/
abbrev Wk := Nat → Mem → Option (Option Vl)
abbrev DW := Ev → Mem → Option (R (Wk × Nat) × Mem)
def ItW (K : PySem.W.Frag) (J : It) (ρ0 : Lay) (H0 : Hp) (w : Wk) : Prop := ∀ (i : Nat) (ρ : Lay) (m : Mem) (H : Hp), Ext ρ0 H0 ρ H → RM K ρ m H →
  (∀ x, w i m = some (some x) → J.go i H ∧ ∀ v H', J.yld i H v H' → RM K ρ m H' ∧ Ext ρ H ρ H' ∧ RV K ρ H' x v) ∧ (w i m = some none → J.stop i H)
def rdW (K : PySem.W.Frag) (W : WX) (d : DW) : TI := fun σ H R => ∃ ρ env m r m', S K ρ env m σ H ∧ d env m = some (r, m') ∧ ∀ ρ' H', RM K ρ' m' H' → Ext ρ H ρ' H' → match r with
  | .ok w => ∀ J, ItW K J ρ' H' w.1 → R J H'
  | .ex c fs => ∀ dd, XD K ρ' H' dd fs → W (.ref (He.ga K c)) dd σ H'
structure SIW (X : Cx) (tg iter : Expr) (d : DW) : Prop where
  run : ∀ W, Takes X W → PI X tg iter (rdW X.K W d)
def statW (xs : List Vl) : Wk := fun i _ => some xs[i]?
def cellW (n : Nat) : Wk := fun i m => match m[n]? with
  | some (.lst ys) => some ys[i]?
  | _ => none
def wkOf (m : Mem) : Vl → Option (Wk × Nat)
  | .obj n => (match m[n]? with
    | some (.lst xs) => some (cellW n, xs.length)
    | _ => none)
  | x => (match staD x with
    | some xs => some (statW xs, xs.length)
    | none => none)
def wLst (da : DE) : DW := fun env m => bindR (da env m) fun x m => match wkOf m x with
  | some w => some (.ok w, m)
  | none => none
section
variable {K : PySem.W.Frag} {ρ0 : Lay} {H0 : Hp} {xs ys : List Vl} {vs us : List V} {a b : Addr}
theorem itW_stat (h : ∀ ρ H, Ext ρ0 H0 ρ H → SqL K H a vs) (r : RVs K ρ0 H0 xs vs) : ItW K (Itl K a) ρ0 H0 (statW xs) := fun i ρ m H E M => by
  have q := itOk_list h r i ρ m H E M
  refine ⟨fun x hx => q.1 x (Option.some.inj hx), fun hx => q.2 ?_⟩
  have hx' : xs[i]? = none := Option.some.inj hx
  exact List.getElem?_eq_none_iff.mp hx'
theorem itW_cell {n : Nat} (ha : ρ0.c[n]? = some a) : ItW K (Itl K a) ρ0 H0 (cellW n) := fun i ρ m H E M => by
  have ha' : ρ.c[n]? = some a := by
    obtain ⟨t, ht⟩ := E.pre
    rw [← ht, List.getElem?_append_left (List.getElem?_eq_some_iff.mp ha).1]
    exact ha
  unfold cellW
  cases hm : m[n]? with
  | none => exact ⟨(fun x hx => nomatch hx), fun hx => nomatch hx⟩
  | some c =>
    cases c with
    | lst ys =>
      obtain ⟨vs, h1, h2⟩ := M.at_ _ _ _ hm ha'
      refine ⟨fun x hx => ?_, fun hx => ⟨vs, SqL.of h1, ?_⟩⟩
      · obtain ⟨v, h3, h4⟩ := h2.get (Option.some.inj hx)
        refine ⟨⟨vs, v, SqL.of h1, h3⟩, fun w H' q => ?_⟩
        obtain ⟨rfl, q2⟩ := q
        have := q2 vs (SqL.of h1)
        rw [h3] at this
        cases this
        exact ⟨M, .refl, h4⟩
      · have hx' : ys[i]? = none := Option.some.inj hx
        rw [← h2.length]
        exact List.getElem?_eq_none_iff.mp hx'
    | _ => exact ⟨(fun x hx => nomatch hx), fun hx => nomatch hx⟩
theorem rdW_E {da : DE} {W : WX} {f : Vl → Mem → Option (R (Wk × Nat) × Mem)} {σ : L2.St} {H : Hp} {R : It → Hp → Prop} {Q : VK} (h : rdW K W (fun env m => bindR (da env m) f) σ H R)
    (k : ∀ x m1 ρ env w v H1, S K ρ env m1 σ H1 → RV K ρ H1 x v → f x m1 = some (.ok w, m1) → (∀ J, ItW K J ρ H1 w.1 → R J H1) → Q v H1) (hf : ∀ x m r m', f x m = some (r, m') → (∃ w, r = .ok w) ∧ m' = m) : rdE K W da σ H Q := by
  obtain ⟨ρ, env, m, r, m', s, e, p⟩ := h
  have e' : bindR (da env m) f = some (r, m') := e
  unfold bindR at e'
  split at e'
  · cases e'
  · rename_i x m1 h0
    obtain ⟨⟨w, rfl⟩, rfl⟩ := hf x m1 r m' e'
    exact goE s h0 fun ρ' H' v s' E rv => k x _ ρ' env w v H' s' rv e' fun J hJ => p ρ' H' s'.mem E J hJ
  · rename_i c fs m1 h0
    cases e'
    exact exE s h0 fun ρ' H' dd s' E r => p ρ' H' s'.mem E dd r
end
section
variable {X : Cx} {tg e : Expr} {es : List Expr} {pos p : Pos} {da db : DE} {d : DW}
theorem siw_list (ha : SE X e da) : SIW X tg e (wLst da) := ⟨fun W tk => impPI (pi_list (ha.run W tk)) fun σ H R h =>
  rdW_E (Q := fun x H1 => ∃ a, x = .ref a ∧ (∃ xs, SqL X.K H1 a xs) ∧ R (Itl X.K a) H1) h (fun x m1 ρ env w v H1 s r e k => by
    split at e
    · rename_i w' hw
      cases e
      unfold wkOf at hw
      split at hw
      · rename_i n
        split at hw
        · rename_i ys hy
          cases hw
          obtain ⟨a, rfl, ha⟩ := r
          obtain ⟨vs, h1, h2⟩ := s.mem.at_ _ _ _ hy ha
          exact ⟨a, rfl, ⟨vs, SqL.of h1⟩, k _ (itW_cell ha)⟩
        · cases hw
      · split at hw
        · rename_i ys hy
          cases hw
          obtain ⟨p, vs, rfl, h1, h2⟩ := staD_ok r hy
          exact ⟨p, rfl, ⟨vs, h1 ρ H1 .refl⟩, k _ (itW_stat h1 h2)⟩
        · cases hw
    · cases e) fun x m r m' e => by
    split at e
    · cases e
      exact ⟨⟨_, rfl⟩, rfl⟩
    · cases e⟩
def forW (g : DG) (body : DS) (w : Wk) : Nat → Nat → Ev → Mem → Option (Fl × Mem)
  | 0, i, env, m => (match w i m with
    | some none => some (.nx env, m)
    | _ => none)
  | k + 1, i, env, m => (match w i m with
    | some none => some (.nx env, m)
    | some (some x) => (match g x env m with
      | some (env1, m1) => (match body env1 m1 with
        | some (.nx env2, m2) => forW g body w k (i + 1) env2 m2
        | some (.ct env2, m2) => forW g body w k (i + 1) env2 m2
        | some (.bk env2, m2) => some (.nx env2, m2)
        | r => r)
      | none => none)
    | none => none)
def dForW (d : DW) (g : DG) (body : DS) : DS := fun env m => bindS (d env m) env fun w m => forW g body w.1 w.2 0 env m
theorem ss_forW {body : List Stmt} {g : DG} {db : DS} (hp : PassesOwn (model X.prog X.w) X.A X.env X.xe) (hc : X.calm = true) (hi : SIW X tg e d) (hg : SG X tg g) (hb : SSs X body db)
    (hs : ∀ x, foldedSetIterable e X.env x = pure x := by intro _; rfl) : SS X (.For tg e body [] pos) (dForW d g db) := ⟨fun W tk =>
  impPS (ps_for hp hc (hi.run W tk) (hg.run W tk) (hb.run W tk) hs) fun D σ H ⟨ρ, env, m, f, m', s, e, p⟩ => by
    unfold dForW bindS at e
    split at e
    · cases e
    · rename_i w m1 h0
      refine ⟨ρ, env, m, _, _, s, h0, fun ρ1 H1 M1 E1 J hJ => ?_⟩
      refine ⟨fun i k σ' H' => ∃ ρ' env' m2, S X.K ρ' env' m2 σ' H' ∧ Ext ρ1 H1 ρ' H' ∧ forW g db w.1 k i env' m2 = some (f, m'), ⟨w.2, ρ1, env, m1, ⟨M1, s.env.mono E1⟩, .refl, e⟩, fun i k σ' H' ⟨ρ', env', m2, s', E', e'⟩ => ?_⟩
      obtain ⟨j1, j2⟩ := hJ i ρ' m2 H' E' s'.mem
      have stop : w.1 i m2 = some none → some (Fl.nx env', m2) = some (f, m') → J.stop i H' ∧ D.nx σ' H' := fun hw q => by
        cases q
        exact ⟨j2 hw, p ρ' H' s'.mem (E1.trans E') σ' s'.env⟩
      cases k with
      | zero =>
        unfold forW at e'
        split at e'
        · rename_i hw
          exact .inl (stop hw e')
        · cases e'
      | succ k =>
        unfold forW at e'
        split at e'
        · rename_i hw
          exact .inl (stop hw e')
        · rename_i x hw
          obtain ⟨j3, j4⟩ := j1 x hw
          refine .inr ⟨j3, fun σ2 H2 => ∃ ρ' env' m2, S X.K ρ' env' m2 σ2 H2 ∧ Ext ρ1 H1 ρ' H2 ∧ forW g db w.1 k (i + 1) env' m2 = some (f, m'), fun σ2 H2 h2 => ⟨k, Nat.lt_succ_self k, h2⟩, fun v H2 hy => ?_⟩
          obtain ⟨M2, E2, r2⟩ := j4 v H2 hy
          split at e'
          · rename_i env1 m3 hg'
            refine ⟨ρ', env', m2, x, env1, m3, s'.to E2 M2, r2, hg', fun ρ3 H3 σ3 s3 E3 => ?_⟩
            have E4 := (E'.trans E2).trans E3
            split at e'
            · rename_i env2 m4 hb'
              exact ⟨ρ3, env1, m3, _, _, s3, hb', fun ρ4 H4 M4 E5 σ4 r4 => ⟨ρ4, env2, m4, ⟨M4, r4⟩, E4.trans E5, e'⟩⟩
            · rename_i env2 m4 hb'
              exact ⟨ρ3, env1, m3, _, _, s3, hb', fun ρ4 H4 M4 E5 σ4 r4 => ⟨ρ4, env2, m4, ⟨M4, r4⟩, E4.trans E5, e'⟩⟩
            · rename_i env2 m4 hb'
              cases e'
              exact ⟨ρ3, env1, m3, _, _, s3, hb', fun ρ4 H4 M4 E5 σ4 r4 => p ρ4 H4 M4 (E1.trans (E4.trans E5)) σ4 r4⟩
            · rename_i r0 n1 n2 n3
              refine ⟨ρ3, env1, m3, f, m', s3, e', fun ρ4 H4 M4 E5 => ?_⟩
              have pp := p ρ4 H4 M4 (E1.trans (E4.trans E5))
              cases f with
              | rt v => exact pp
              | ex c fs env2 => exact pp
              | nx env2 => exact absurd e' (n1 env2 m')
              | ct env2 => exact absurd e' (n2 env2 m')
              | bk env2 => exact absurd e' (n3 env2 m')
          · cases e'
        · cases e'
    · rename_i c fs m1 h0
      cases e
      exact ⟨ρ, env, m, _, _, s, h0, fun ρ' H' M E dd x => p ρ' H' M E σ (s.env.mono E) dd x⟩⟩
/-! comprehensions -/
def lcW (g : DGc) (dt : DT) (de : DE) (env : Ev) (w : Wk) : Nat → Nat → Mem → Option (List Vl × Mem)
  | 0, i, m => (match w i m with
    | some none => some ([], m)
    | _ => none)
  | k + 1, i, m => (match w i m with
    | some none => some ([], m)
    | some (some x) => (match g x env with
      | some env1 => (match dt env1 m with
        | some (.ok true, m1) => (match de env1 m1 with
          | some (.ok y, m2) => (match lcW g dt de env w k (i + 1) m2 with
            | some (ys, m3) => some (y :: ys, m3)
            | none => none)
          | _ => none)
        | some (.ok false, m1) => lcW g dt de env w k (i + 1) m1
        | _ => none)
      | none => none)
    | none => none)
def dLcW (di : DW) (g : DGc) (dt : DT) (de : DE) (vs : List Nat) : DA := fun env m => bindR (di env m) fun w m => if w.2 ≤ sizeLine then okR (lcW g dt de (wipeE env vs) w.1 w.2 0 m) else none
theorem tLcW_of {K : PySem.W.Frag} {W : WX} {di : DW} {g : DGc} {dt : DT} {de : DE} {vs : List Nat} {σ : L2.St} {H : Hp} {Q : VK} (h : rdL K W (dLcW di g dt de vs) σ H Q) : tLc (rdW K W di) (rdGc K g vs) (rdT K FE dt) (rdE K FE de) vs σ H Q := by
  obtain ⟨ρ, env, m, r, m', s, e, p⟩ := h
  unfold dLcW at e
  unfold bindR at e
  split at e
  · cases e
  · rename_i w m1 h0
    dsimp only at e
    split at e
    · rename_i hz
      refine ⟨ρ, env, m, _, _, s, h0, fun ρ1 H1 M1 E1 J hJ D hD => ?_⟩
      obtain ⟨ys, h2, rfl⟩ := okR_some e
      have oc := M1.fresh hD
      have oz := M1.freshz hD
      refine ⟨fun i k H' => k + i = w.2 ∧ ∃ ρ' m2 acc accv rest, S K ρ' (wipeE env vs) m2 (L2.wipe σ vs) H' ∧ Ext ρ1 H1 ρ' H' ∧ H' D = some (.lst accv) ∧ D ∉ ρ'.c ∧ D ∉ ρ'.z ∧ acc.length ≤ i ∧ RVs K ρ' H' acc accv ∧ lcW g dt de (wipeE env vs) w.1 k i m2 = some (rest, m') ∧ ys = acc ++ rest,
        ⟨w.2, rfl, ρ1, m1, [], [], ys, ⟨M1.laid hD, (s.env.mono (E1.trans (ext_new hD))).wipe vs⟩, ext_new hD, upd_same, oc, oz, Nat.le_refl _, rfl, h2, rfl⟩, fun i k H' ⟨hk, ρ', m2, acc, accv, rest, s', E', hD', nc, nz, hacc, ra, hl, hy⟩ => ?_⟩
      obtain ⟨j1, j2⟩ := hJ i ρ' m2 H' E' s'.mem
      have stop : w.1 i m2 = some none → some (([] : List Vl), m2) = some (rest, m') → J.stop i H' ∧ Q (.ref D) H' := fun hw q => by
        cases q
        refine ⟨j2 hw, p ρ' H' s'.mem (E1.trans E') _ ⟨D, accv, rfl, ⟨nc, nz, E1.none hD⟩, hD', by rw [← ra.length]; omega, ?_⟩⟩
        rw [hy, List.append_nil]
        exact ra
      cases k with
      | zero =>
        unfold lcW at hl
        split at hl
        · rename_i hw
          exact .inl (stop hw hl)
        · cases hl
      | succ k =>
        unfold lcW at hl
        split at hl
        · rename_i hw
          exact .inl (stop hw hl)
        · rename_i x hw
          obtain ⟨j3, j4⟩ := j1 x hw
          refine .inr ⟨j3, fun H2 => k + (i + 1) = w.2 ∧ ∃ ρ' m2 acc accv rest, S K ρ' (wipeE env vs) m2 (L2.wipe σ vs) H2 ∧ Ext ρ1 H1 ρ' H2 ∧ H2 D = some (.lst accv) ∧ D ∉ ρ'.c ∧ D ∉ ρ'.z ∧ acc.length ≤ i + 1 ∧ RVs K ρ' H2 acc accv ∧ lcW g dt de (wipeE env vs) w.1 k (i + 1) m2 = some (rest, m') ∧ ys = acc ++ rest, fun H2 h2 => ⟨k, Nat.lt_succ_self k, h2⟩, fun v H2 hyl => ?_⟩
          obtain ⟨M2, E2, r2⟩ := j4 v H2 hyl
          split at hl
          · rename_i env1 hg
            refine ⟨ρ', _, m2, x, env1, s'.to E2 M2, r2, hg, fun σ3 s3 w3 => ⟨w3.trans (wipe_wipe fun _ h => h), ?_⟩⟩
            have hD2 : H2 D = some (.lst accv) := E2.keep D _ hD' nc
            have back : ∀ {ρ4 : Lay} {m4 : Mem} {H4 : Hp}, Ext ρ' H2 ρ4 H4 → RM K ρ4 m4 H4 → S K ρ4 (wipeE env vs) m4 (L2.wipe σ vs) H4 := fun E4 M4 => s'.to (E2.trans E4) M4
            split at hl
            · rename_i m4 ht
              refine goT s3 ht fun ρ4 H4 s4 E4 => ?_
              show rdE K FE de σ3 H4 _
              split at hl
              · rename_i y m5 he
                refine goE s4 he fun ρ5 H5 u s5 E5 ru => ?_
                split at hl
                · rename_i zs m6 hr
                  cases hl
                  have E45 := E4.trans E5
                  have hD5 : H5 D = some (.lst accv) := E45.keep D _ hD2 nc
                  have nc5 : D ∉ ρ5.c := E45.out hD2 nc
                  have nz5 : D ∉ ρ5.z := E45.outz hD2 nz
                  refine ⟨accv, hD5, by rw [← ra.length]; omega, by omega, ρ5, m5, acc ++ [y], accv ++ [u], zs, ?_⟩
                  have sb := back E45 s5.mem
                  refine ⟨sb.priv nc5 nz5 hD5, ((E'.trans E2).trans E45).priv hD, upd_same, nc5, nz5, by rw [List.length_append]; show acc.length + 1 ≤ _; omega, ?_, hr, by rw [hy, List.append_assoc]; rfl⟩
                  exact RVs.priv nc5 nz5 hD5 _ ((ra.mono (E2.trans E45)).append ⟨u, [], rfl, ru, rfl⟩)
                · cases hl
              · cases hl
            · rename_i m4 ht
              refine goT s3 ht fun ρ4 H4 s4 E4 => ?_
              show _ ∧ _
              refine ⟨by omega, ρ4, m4, acc, accv, rest, back E4 s4.mem, (E'.trans E2).trans E4, E4.keep D _ hD2 nc, E4.out hD2 nc, E4.outz hD2 nz, by omega, ra.mono (E2.trans E4), hl, hy⟩
            · cases hl
          · cases hl
        · cases hl
    · cases e
  · rename_i c fs m1 h0
    cases e
    exact ⟨ρ, env, m, _, _, s, h0, fun ρ' H' M E dd x => p ρ' H' M E dd x⟩
/-- [e for x in xs if t]: a new list -/
theorem sl_lcW {elt tg iter : Expr} {ifs : List Expr} {scope : Scope} {own : List (Str × Nat)} {di : DW} {g : DGc} {dt : DT} {de : DE} (hc : X.calm = true) (hN : X.N.Nodup) (hi : SIW X tg iter di) (ok : BlkOk X.N X.env.scope scope own)
    (hg : ∀ (s : Shared) (H : Hp) (C : Addr) (cl : List (Str × Addr)) (fp : List Addr), SGc (X.blk s H scope (compEnvC scope cl C X.env) fp) tg g (own.map (·.2))) (ht : ∀ (s : Shared) (H : Hp) (C : Addr) (cl : List (Str × Addr)) (fp : List Addr), STs (X.blk s H scope (compEnvC scope cl C X.env) fp) ifs dt)
    (he : ∀ (s : Shared) (H : Hp) (C : Addr) (cl : List (Str × Addr)) (fp : List Addr), SE (X.blk s H scope (compEnvC scope cl C X.env) fp) elt de) (hs : ∀ x, foldedSetIterable iter X.env x = pure x := by intro _; rfl) :
    SL X (.ListComp elt [⟨tg, iter, ifs, 0⟩] scope pos) (dLcW di g dt de (own.map (·.2))) := ⟨fun W tk =>
  impPE (pe_lc hc hN (hi.run W tk) ok (fun s H C cl fp => (hg s H C cl fp).run) (fun s H C cl fp => (ht s H C cl fp).run FE takesF) (fun s H C cl fp => (he s H C cl fp).run FE takesF) hs) fun σ H Q h => tLcW_of h⟩
theorem ss_setLcW {i : Nat} {y : Str} {py spos : Pos} {cell : Bool} {elt tg iter : Expr} {ifs : List Expr} {scope : Scope} {own : List (Str × Nat)} {di : DW} {g : DGc} {dt : DT} {de : DE} (hc : X.calm = true) (hN : X.N.Nodup) (hy : X.N[i]? = some y) (hyl : X.env.scope.names.lookup y = some .local)
    (hsw : swapsWith (.ListComp elt [⟨tg, iter, ifs, 0⟩] scope pos) (some (.Name y py)) spos.line X.env = pure true) (hi : SIW X tg iter di) (ok : BlkOk X.N X.env.scope scope own)
    (hg : ∀ (s : Shared) (H : Hp) (C : Addr) (cl : List (Str × Addr)) (fp : List Addr), SGc (X.blk s H scope (compEnvC scope cl C X.env) fp) tg g (own.map (·.2))) (ht : ∀ (s : Shared) (H : Hp) (C : Addr) (cl : List (Str × Addr)) (fp : List Addr), STs (X.blk s H scope (compEnvC scope cl C X.env) fp) ifs dt)
    (he : ∀ (s : Shared) (H : Hp) (C : Addr) (cl : List (Str × Addr)) (fp : List Addr), SE (X.blk s H scope (compEnvC scope cl C X.env) fp) elt de) (hs : ∀ x, foldedSetIterable iter X.env x = pure x := by intro _; rfl) :
    SS X (.Assign [.Name y py] (.ListComp elt [⟨tg, iter, ifs, 0⟩] scope pos) spos) (dAsgL i cell (dLcW di g dt de (own.map (·.2)))) := ⟨fun W tk =>
  impPS (ps_setLc hc hN hy hyl hsw (hi.run W tk) ok (fun s H C cl fp => (hg s H C cl fp).run) (fun s H C cl fp => (ht s H C cl fp).run FE takesF) (fun s H C cl fp => (he s H C cl fp).run FE takesF) hs) fun D σ H ⟨ρ, env, m, f, m', s, e, p⟩ => by
    refine tLcW_of (W := W) (g := g) (dt := dt) (de := de) ?_
    unfold dAsgL bindS at e
    split at e
    · cases e
    · rename_i xs m1 h0
      refine goL s h0 fun ρ' H' a vs s' E w h3 h4 r => ?_
      show D.nx (σ.set i (some (.ref a))) H'
      cases cell with
      | true =>
        dsimp only at e
        rw [if_pos rfl] at e
        cases e
        have s2 := s'.cel (c := .lst xs) w.c w.z h3 rfl ⟨vs, h3, r⟩
        exact p _ H' s2.mem (E.toCel w) _ (s2.env.set ⟨a, rfl, by
          show (ρ'.c ++ [a])[m1.length]? = some a
          rw [← s'.mem.len]
          simp⟩)
      | false =>
        dsimp only at e
        rw [if_neg (by decide)] at e
        cases e
        have s2 := s'.frz w.c h3
        exact p _ H' s2.mem (E.toFrz w) _ (s2.env.set ⟨a, vs, rfl, ⟨mem_frz.mpr (.inr rfl), w.c⟩, h3, r.frz w.c⟩)
    · rename_i c fs m1 h0
      cases e
      exact exL s h0 fun ρ' H' dd s' E r => p ρ' H' s'.mem E σ s'.env dd r⟩
end
end Z
namespace Z
open PySem PySem.Spec PyProof.Rows L2
variable [Kd]
/-! ### what the readings compute, step by step -/
section
variable {α β : Type} {env env' : Ev} {m m' : Mem} {v w x y : Vl} {a : α} {c : Str} {fs : List (Str × Vl)} {da db de : DE} {d dk : DA} {d1 d2' : DS} {t u : DT} {i j : Nat} {k n : Int}
@[simp] theorem thenS_nx {f : Ev → Mem → Option (Fl × Mem)} : thenS (some (.nx env, m)) f = f env m := rfl
@[simp] theorem thenS_rt {f : Ev → Mem → Option (Fl × Mem)} : thenS (some (.rt v, m)) f = some (.rt v, m) := rfl
@[simp] theorem thenS_bk {f : Ev → Mem → Option (Fl × Mem)} : thenS (some (.bk env, m)) f = some (.bk env, m) := rfl
@[simp] theorem thenS_ct {f : Ev → Mem → Option (Fl × Mem)} : thenS (some (.ct env, m)) f = some (.ct env, m) := rfl
@[simp] theorem thenS_ex {f : Ev → Mem → Option (Fl × Mem)} : thenS (some (.ex c fs env, m)) f = some (.ex c fs env, m) := rfl
@[simp] theorem thenS_none {f : Ev → Mem → Option (Fl × Mem)} : thenS none f = none := rfl
@[simp] theorem bindR_ok {f : α → Mem → Option (R β × Mem)} : bindR (some (.ok a, m)) f = f a m := rfl
@[simp] theorem bindR_ex {f : α → Mem → Option (R β × Mem)} : bindR (some (.ex c fs, m)) f = some (.ex c fs, m) := rfl
@[simp] theorem bindR_none {f : α → Mem → Option (R β × Mem)} : bindR (none : Option (R α × Mem)) f = none := rfl
@[simp] theorem bindS_ok {f : α → Mem → Option (Fl × Mem)} : bindS (some (.ok a, m)) env f = f a m := rfl
@[simp] theorem bindS_ex {f : α → Mem → Option (Fl × Mem)} : bindS (some ((.ex c fs : R α), m)) env f = some (.ex c fs env, m) := rfl
@[simp] theorem bindS_none {f : α → Mem → Option (Fl × Mem)} : bindS (none : Option (R α × Mem)) env f = none := rfl
@[simp] theorem okR_s {z : α} : okR (some (z, m)) = some (.ok z, m) := rfl
@[simp] theorem okR_n : okR (none : Option (α × Mem)) = none := rfl
@[simp] theorem dC_ap : dC v env m = some (.ok v, m) := rfl
theorem dVar_ap (h : env[i]? = some (some v)) : dVar i env m = some (.ok v, m) := by unfold dVar; rw [h]
@[simp] theorem dVar_z {e : Ev} : dVar 0 (some v :: e) m = some (.ok v, m) := rfl
@[simp] theorem dVar_s {o : Option Vl} {e : Ev} : dVar (i + 1) (o :: e) m = dVar i e m := rfl
@[simp] theorem d2_ap {f : F2} : d2 f da db env m = bindR (da env m) fun x m => bindR (db env m) fun y m => okR (f x y m) := rfl
@[simp] theorem b2_ap {f : F2} : b2 f da db env m = bindR (da env m) fun x m => bindR (db env m) fun y m => match f x y m with
  | some (.bl k, m) => some (.ok k, m)
  | _ => none := rfl
@[simp] theorem tB_ap : tB' da env m = bindR (da env m) fun x m => match x with
  | .bl k => some (.ok k, m)
  | _ => none := rfl
@[simp] theorem tTr_ap : tTr da env m = bindR (da env m) fun x m => match truD m x with
  | some b => some (.ok b, m)
  | none => none := rfl
@[simp] theorem truD_bl {b : Bool} : truD m (.bl b) = some b := rfl
@[simp] theorem truD_int {b : Int} : truD m (.int b) = some (b != 0) := rfl
@[simp] theorem truD_non : truD m .non = some false := rfl
@[simp] theorem truD_lst {xs : List Vl} : truD m (.lst xs) = some (!xs.isEmpty) := rfl
@[simp] theorem truD_tup {xs : List Vl} : truD m (.tup xs) = some (!xs.isEmpty) := rfl
@[simp] theorem tAnd2_ap : tAnd2 t u env m = bindR (t env m) fun b m => if b = true then u env m else some (.ok false, m) := rfl
@[simp] theorem tOr2_ap : tOr2 t u env m = bindR (t env m) fun b m => if b = true then some (.ok true, m) else u env m := rfl
@[simp] theorem tNot1_ap : tNot1 t env m = bindR (t env m) fun b m => some (.ok (!b), m) := rfl
@[simp] theorem dIf_ap : dIf t da db env m = bindR (t env m) fun b m => if b = true then da env m else db env m := rfl
@[simp] theorem dCons_ap : dCons da d env m = bindR (da env m) fun x m => bindR (d env m) fun xs m => some (.ok (x :: xs), m) := rfl
@[simp] theorem dNone_ap : dNone env m = some (.ok [], m) := rfl
@[simp] theorem dTup_ap : dTup d env m = bindR (d env m) fun xs m => if xs.length ≤ sizeLine then some (.ok (.tup xs), m) else none := rfl
@[simp] theorem dLst_ap : dLst d env m = bindR (d env m) fun xs m => if xs.length ≤ sizeLine then some (.ok xs, m) else none := rfl
@[simp] theorem dFrz_ap : dFrz d env m = bindR (d env m) fun xs m => some (.ok (.lst xs), m) := rfl
@[simp] theorem dNew_ap : dNew d env m = bindR (d env m) fun xs m => some (.ok (.obj m.length), m ++ [.lst xs]) := rfl
@[simp] theorem dB_ap {f : FB} : dB f d env m = bindR (d env m) fun xs m => okR (f xs m) := rfl
@[simp] theorem dCall_ap {p q : Nat} {gd : List Vl → List Vl → Mem → Option (R Vl × Mem)} : dCall p q gd d dk env m = bindR (d env m) fun xs m => bindR (dk env m) fun ys m => if xs.length = p ∧ ys.length = q then gd xs ys m else none := rfl
@[simp] theorem dNotV_ap : dNotV da env m = bindR (da env m) fun x m => match truD m x with
  | some b => some (.ok (.bl (!b)), m)
  | none => none := rfl
/-! statements -/
@[simp] theorem dSeq_ap : dSeq d1 d2' env m = thenS (d1 env m) d2' := rfl
@[simp] theorem dNil_ap : dNil env m = some (.nx env, m) := rfl
@[simp] theorem dDrop_ap : dDrop de env m = bindS (de env m) env fun _ m => some (.nx env, m) := rfl
@[simp] theorem dRet_ap : dRet de env m = bindS (de env m) env fun x m => some (.rt x, m) := rfl
@[simp] theorem dRetN_ap : dRetN env m = some (.rt .non, m) := rfl
@[simp] theorem dIfS_ap : dIfS t d1 d2' env m = bindS (t env m) env fun b m => if b = true then d1 env m else d2' env m := rfl
@[simp] theorem dAsg_ap : dAsg i de env m = bindS (de env m) env fun x m => some (.nx (env.set i (some x)), m) := rfl
@[simp] theorem dAsgG_ap {g : DG} : dAsgG g de env m = bindS (de env m) env fun x m => match g x env m with
  | some (env', m') => some (.nx env', m')
  | none => none := rfl
@[simp] theorem gVar_ap : gVar i v env m = some (env.set i (some v), m) := rfl
@[simp] theorem gcVar_ap : gcVar i v env = some (env.set i (some v)) := rfl
@[simp] theorem gsNil_ap : gsNil [] env m = some (env, m) := rfl
@[simp] theorem gsCons_ap {g : DG} {gs : List Vl → Ev → Mem → Option (Ev × Mem)} {xs : List Vl} : gsCons g gs (v :: xs) env m = (match g v env m with
  | some (env1, m1) => gs xs env1 m1
  | none => none) := rfl
@[simp] theorem dNever_ap : dNever env m = none := rfl
@[simp] theorem dBrk_ap : dBrk env m = some (.bk env, m) := rfl
@[simp] theorem dCnt_ap : dCnt env m = some (.ct env, m) := rfl
/-! ints -/
@[simp] theorem addA_int : addA (.int k) (.int n) m = some (.int (k + n), m) := rfl
@[simp] theorem subI_int : subI (.int k) (.int n) m = some (.int (k - n), m) := rfl
theorem mulA_int (h : mulC k n = true) : mulA (.int k) (.int n) m = some (.int (k * n), m) := by
  unfold mulA orF mulI intF
  simp only [h, if_true]
theorem mulC_l (h1 : -(2 ^ 64) < k) (h2 : k < 2 ^ 64) : mulC k n = true := by
  unfold mulC
  rw [decide_eq_true h1, decide_eq_true h2]
  rfl
theorem mulC_r (h1 : -(2 ^ 64) < n) (h2 : n < 2 ^ 64) : mulC k n = true := by
  unfold mulC
  rw [decide_eq_true h1, decide_eq_true h2, Bool.or_eq_true]
  exact .inr rfl
theorem divI_int (h : 0 < n) (h2 : n < 1073741824) : divI (.int k) (.int n) m = some (.int (k / n), m) := by
  unfold divI intF
  simp [h, h2]
theorem modI_int (h : 0 < n) : modI (.int k) (.int n) m = some (.int (k % n), m) := by
  unfold modI intF
  simp [h]
theorem powI_int (h : 0 ≤ n) (h2 : n ≤ 1000000) (h3 : k.natAbs < 2 ^ 64) : powI (.int k) (.int n) m = some (.int (k ^ n.toNat), m) := by
  unfold powI intF
  simp only [h, h2, h3, decide_true, Bool.and_self, if_true]
@[simp] theorem ltI_int : ltI (.int k) (.int n) m = some (.bl (decide (k < n)), m) := rfl
@[simp] theorem leI_int : leI (.int k) (.int n) m = some (.bl (decide (k ≤ n)), m) := rfl
@[simp] theorem gtI_int : gtI (.int k) (.int n) m = some (.bl (decide (n < k)), m) := rfl
@[simp] theorem geI_int : geI (.int k) (.int n) m = some (.bl (decide (n ≤ k)), m) := rfl
@[simp] theorem intFn_int : intFn [.int k] m = some (.int k, m) := rfl
@[simp] theorem absF_int : absF [.int k] m = some (.int (if k < 0 then -k else k), m) := rfl
@[simp] theorem two_int {g : Int → Int → Int} : two g [.int k, .int n] m = some (.int (g k n), m) := rfl
theorem lenF_lst {xs : List Vl} : lenF [.lst xs] m = some (.int xs.length, m) := rfl
theorem lenF_frl {xs : List Vl} : lenF [.frl xs] m = some (.int xs.length, m) := rfl
theorem lenF_tup {xs : List Vl} : lenF [.tup xs] m = some (.int xs.length, m) := rfl
theorem lenF_obj {xs : List Vl} (h : m[i]? = some (.lst xs)) : lenF [.obj i] m = some (.int xs.length, m) := by
  unfold lenF seqD
  simp only [h]
/-! == of ints, texts, bools -/
@[simp] theorem eqF_int : eqF (.int k) (.int n) m = some (.bl (decide (k = n)), m) := by
  show some (Vl.bl (decide (V.int k = V.int n)), m) = _
  simp
@[simp] theorem neF_int : neF (.int k) (.int n) m = some (.bl (!decide (k = n)), m) := by
  show some (Vl.bl (!decide (V.int k = V.int n)), m) = _
  simp
@[simp] theorem eqF_bl {p q : Bool} : eqF (.bl p) (.bl q) m = some (.bl (p == q), m) := by
  show some (Vl.bl (decide (V.bl p = V.bl q)), m) = _
  rw [dec_bl]
@[simp] theorem neF_bl {p q : Bool} : neF (.bl p) (.bl q) m = some (.bl (!(p == q)), m) := by
  show some (Vl.bl (!decide (V.bl p = V.bl q)), m) = _
  rw [dec_bl]
@[simp] theorem eqF_str {a b : Str} : eqF (.str a) (.str b) m = some (.bl (a == b), m) := by
  show some (Vl.bl (decide (V.str a = V.str b)), m) = _
  rw [dec_str]
@[simp] theorem neF_str {a b : Str} : neF (.str a) (.str b) m = some (.bl (!(a == b)), m) := by
  show some (Vl.bl (!decide (V.str a = V.str b)), m) = _
  rw [dec_str]
theorem eqF_obj {x y : Vl} (h : flatL x = none ∨ flatL y = none) : eqF x y m = eqW x y m := by
  unfold eqF orF eqS
  rcases h with h | h
  · rw [h]
  · rw [h]
    cases flatL x <;> rfl
theorem neF_obj {x y : Vl} (h : flatL x = none ∨ flatL y = none) : neF x y m = neW x y m := by
  unfold neF orF eqS
  rcases h with h | h
  · rw [h]
  · rw [h]
    cases flatL x <;> rfl
/-! items -/
theorem ixA_lst {xs : List Vl} {q : Int} (h : L2.atI xs q = some v) : ixA (.lst xs) (.int q) m = some (v, m) := by
  unfold ixA orF ixT seqD
  simp only [h]
theorem ixA_frl {xs : List Vl} {q : Int} (h : L2.atI xs q = some v) : ixA (.frl xs) (.int q) m = some (v, m) := by
  unfold ixA orF ixT seqD
  simp only [h]
theorem ixA_tup {xs : List Vl} {q : Int} (h : L2.atI xs q = some v) : ixA (.tup xs) (.int q) m = some (v, m) := by
  unfold ixA orF ixT seqD
  simp only [h]
theorem ixA_obj {xs : List Vl} {q : Int} (hm : m[i]? = some (.lst xs)) (h : L2.atI xs q = some v) : ixA (.obj i) (.int q) m = some (v, m) := by
  unfold ixA orF ixT seqD
  simp only [hm, h]
theorem atI_of {xs : List Vl} {q : Int} (h0 : 0 ≤ q) (h : xs[q.toNat]? = some v) : L2.atI xs q = some v := by
  have hl := (List.getElem?_eq_some_iff.mp h).1
  unfold L2.atI L2.ixN
  rw [if_pos h0, if_pos (by omega)]
  exact h
theorem gSetI_ap {do' di : DE} {n : Nat} {q : Int} {ys : List Vl} {j : Nat} {m1 m2 : Mem} (h1 : do' env m = some (.ok (.obj n), m1)) (h2 : di env m1 = some (.ok (.int q), m2)) (h3 : m2[n]? = some (.lst ys)) (h4 : L2.ixN ys.length q = some j) : gSetI do' di v env m = some (env, m2.set n (.lst (ys.set j v))) := by
  unfold gSetI
  simp only [h1, h2, h3, h4]
theorem getlt {α : Type} {l : List α} {n : Nat} {z : α} (h : l[n]? = some z) : n < l.length := (List.getElem?_eq_some_iff.mp h).1
@[simp] theorem get_set {α : Type} {l : List α} {n : Nat} {z y : α} (h : l[n]? = some z) : (l.set n y)[n]? = some y := by
  rw [List.getElem?_set_self (getlt h)]
theorem set_same {α : Type} {l : List α} {n : Nat} {z : α} (h : l[n]? = some z) : l.set n z = l := by
  obtain ⟨h1, h2⟩ := List.getElem?_eq_some_iff.mp h
  subst h2
  exact List.set_getElem_self h1
end
/-! ### walks whose items leave the memory alone -/
theorem lcW_map {g : DGc} {de : DE} {env : Ev} {n : Nat} {m : Mem} {ys : List Vl} {f : Vl → Vl} (hm : m[n]? = some (.lst ys)) (h : ∀ x ∈ ys, ∃ env1, g x env = some env1 ∧ de env1 m = some (.ok (f x), m)) :
    ∀ k i, k + i = ys.length → lcW g dYes de env (cellW n) k i m = some ((ys.drop i).map f, m)
  | 0, i, hk => by
    unfold lcW cellW
    rw [hm]
    simp only [show ys[i]? = none from List.getElem?_eq_none_iff.mpr (by omega)]
    rw [List.drop_of_length_le (by omega)]
    rfl
  | k + 1, i, hk => by
    have hi : i < ys.length := by omega
    obtain ⟨env1, h1, h2⟩ := h ys[i] (List.getElem_mem hi)
    have ih := lcW_map hm h k (i + 1) (by omega)
    unfold lcW
    have hw : cellW n i m = some (some ys[i]) := by
      unfold cellW
      rw [hm]
      simp only [List.getElem?_eq_getElem hi]
    rw [hw]
    simp only [h1, dYes, h2, ih]
    rw [List.drop_eq_getElem_cons hi, List.map_cons]
theorem lcZ_map {g : DGc} {de : DE} {env : Ev} {m : Mem} {f : Vl → Vl} : ∀ {ys : List Vl}, (∀ x ∈ ys, ∃ env1, g x env = some env1 ∧ de env1 m = some (.ok (f x), m)) → lcZ g dYes de env ys m = some (ys.map f, m)
  | [], _ => rfl
  | x :: xs, h => by
    obtain ⟨env1, h1, h2⟩ := h x List.mem_cons_self
    have ih := lcZ_map (ys := xs) fun y hy => h y (List.mem_cons_of_mem _ hy)
    unfold lcZ
    simp only [h1, dYes, h2, ih, List.map_cons]
/-- a for statement that keeps what P says -/
theorem forL_inv {g : DG} {body : DS} (P : Ev → Mem → Prop) : ∀ {xs : List Vl} {env : Ev} {m : Mem}, P env m → (∀ x ∈ xs, ∀ env m, P env m → ∃ env1 m1 env2 m2, g x env m = some (env1, m1) ∧ body env1 m1 = some (.nx env2, m2) ∧ P env2 m2) → ∃ env' m', forL g body xs env m = some (.nx env', m') ∧ P env' m'
  | [], env, m, h, _ => ⟨env, m, rfl, h⟩
  | x :: xs, env, m, h, hb => by
    obtain ⟨env1, m1, env2, m2, h1, h2, h3⟩ := hb x List.mem_cons_self env m h
    obtain ⟨env', m', h4, h5⟩ := forL_inv P (xs := xs) h3 fun y hy => hb y (List.mem_cons_of_mem _ hy)
    refine ⟨env', m', ?_, h5⟩
    unfold forL
    simp only [h1, h2, h4]
/-! ### what holds behind a reading -/
structure wpO {α : Type} (x : Option (α × Mem)) (Q : α → Mem → Prop) : Prop where
  ex : ∃ a m, x = some (a, m) ∧ Q a m
section
variable {α β : Type} {env env' : Ev} {m m' : Mem} {v : Vl} {Q : Fl → Mem → Prop} {g : DG} {body : DS} {k : Ev → Mem → Option (Fl × Mem)} {xs : List Vl}
theorem wpO_iff {x : Option (α × Mem)} {Q : α → Mem → Prop} : wpO x Q ↔ ∃ a m, x = some (a, m) ∧ Q a m := ⟨fun h => h.ex, fun h => ⟨h⟩⟩
@[simp] theorem wpO_some {a : α} {m : Mem} {Q : α → Mem → Prop} : wpO (some (a, m)) Q = Q a m := propext ⟨fun ⟨_, _, h, q⟩ => by cases h; exact q, fun h => ⟨_, _, rfl, h⟩⟩
@[simp] theorem wpO_none {Q : α → Mem → Prop} : wpO none Q = False := propext ⟨(fun h => by obtain ⟨_, _, e, _⟩ := h; cases e), fun h => False.elim h⟩
theorem wpO_mono {x : Option (α × Mem)} {P Q : α → Mem → Prop} (h : wpO x P) (q : ∀ a m, P a m → Q a m) : wpO x Q := by
  obtain ⟨a, m, h1, h2⟩ := h
  exact ⟨a, m, h1, q _ _ h2⟩
theorem wp_fin {x : Option (α × Mem)} {a : α} (h : wpO x (fun r _ => r = a)) : ∃ m', x = some (a, m') := by
  obtain ⟨r, m', h1, rfl⟩ := wpO_iff.mp h
  exact ⟨m', h1⟩
/-- a loop whose turns all go on -/
theorem wp_for (P : Ev → Mem → Prop) (h0 : P env m) (hs : ∀ x ∈ xs, ∀ env m, P env m → ∃ env1 m1, g x env m = some (env1, m1) ∧ wpO (body env1 m1) (fun f m2 => ∃ e, f = .nx e ∧ P e m2)) (hk : ∀ env' m', P env' m' → wpO (k env' m') Q) : wpO (thenS (forL g body xs env m) k) Q := by
  obtain ⟨env', m', h1, h2⟩ := forL_inv (g := g) (body := body) P (xs := xs) h0 fun x hx env m hp => by
    obtain ⟨env1, m1, h1, h2⟩ := hs x hx env m hp
    obtain ⟨f, m2, h3, e, rfl, h4⟩ := wpO_iff.mp h2
    exact ⟨env1, m1, e, m2, h1, h3, h4⟩
  rw [h1, thenS_nx]
  exact hk env' m' h2
/-- .. the last statement of a body -/
theorem wp_for_last (P : Ev → Mem → Prop) (h0 : P env m) (hs : ∀ x ∈ xs, ∀ env m, P env m → ∃ env1 m1, g x env m = some (env1, m1) ∧ wpO (body env1 m1) (fun f m2 => ∃ e, f = .nx e ∧ P e m2)) (hk : ∀ env' m', P env' m' → Q (.nx env') m') : wpO (forL g body xs env m) Q := by
  obtain ⟨env', m', h1, h2⟩ := forL_inv (g := g) (body := body) P (xs := xs) h0 fun x hx env m hp => by
    obtain ⟨env1, m1, h1, h2⟩ := hs x hx env m hp
    obtain ⟨f, m2, h3, e, rfl, h4⟩ := wpO_iff.mp h2
    exact ⟨env1, m1, e, m2, h1, h3, h4⟩
  exact ⟨_, _, h1, hk env' m' h2⟩
theorem wp_body {n : Nat} {d : DS} {xs : List Vl} {Q : R Vl → Mem → Prop} (h : wpO (d (startZ n xs) m) (fun f m' => match f with
    | .rt v => Q (.ok v) m'
    | .nx _ => Q (.ok .non) m'
    | .ex c fs _ => Q (.ex c fs) m'
    | _ => False)) : wpO (bodyD n d xs m) Q := by
  obtain ⟨f, m', h1, h2⟩ := wpO_iff.mp h
  cases f with
  | rt v => exact ⟨_, _, by unfold bodyD; rw [h1], h2⟩
  | nx e => exact ⟨_, _, by unfold bodyD; rw [h1], h2⟩
  | ex c fs e => exact ⟨_, _, by unfold bodyD; rw [h1], h2⟩
  | _ => exact h2.elim
end
@[simp] theorem dFor_ap {d : DA} {g : DG} {body : DS} {env : Ev} {m : Mem} : dFor d g body env m = bindS (d env m) env fun xs m => forL g body xs env m := rfl
@[simp] theorem dForW_ap {d : DW} {g : DG} {body : DS} {env : Ev} {m : Mem} : dForW d g body env m = bindS (d env m) env fun w m => forW g body w.1 w.2 0 env m := rfl
@[simp] theorem dLc_ap {di : DA} {g : DGc} {dt : DT} {de : DE} {vs : List Nat} {env : Ev} {m : Mem} : dLc di g dt de vs env m = bindR (di env m) fun xs m => if xs.length ≤ sizeLine then okR (lcZ g dt de (wipeE env vs) xs m) else none := rfl
@[simp] theorem dLcW_ap {di : DW} {g : DGc} {dt : DT} {de : DE} {vs : List Nat} {env : Ev} {m : Mem} : dLcW di g dt de vs env m = bindR (di env m) fun w m => if w.2 ≤ sizeLine then okR (lcW g dt de (wipeE env vs) w.1 w.2 0 m) else none := rfl
@[simp] theorem dAsgL_t {i : Nat} {d : DA} {env : Ev} {m : Mem} : dAsgL i true d env m = bindS (d env m) env fun xs m => some (.nx (env.set i (some (.obj m.length))), m ++ [.lst xs]) := rfl
@[simp] theorem dAsgL_f {i : Nat} {d : DA} {env : Ev} {m : Mem} : dAsgL i false d env m = bindS (d env m) env fun xs m => some (.nx (env.set i (some (.lst xs))), m) := rfl
@[simp] theorem wipeE_nil {env : Ev} : wipeE env [] = env := rfl
@[simp] theorem dSl_ap {da : DE} {lo hi : DO} {env : Ev} {m : Mem} : dSl da lo hi env m = bindR (da env m) fun x m => bindR (lo env m) fun l m => bindR (hi env m) fun h m => okR (slD x l h m) := rfl
@[simp] theorem dPart_ap {da : DE} {env : Ev} {m : Mem} : dPart da env m = bindR (da env m) fun x m => match x with
  | .int i => some (.ok (some i), m)
  | _ => none := rfl
def iSeqK : Option (R Vl × Mem) → Option (R (List Vl) × Mem)
  | some (.ok (.tup xs), m) => some (.ok xs, m)
  | some (.ok x, m) => (match staD x with
    | some xs => some (.ok xs, m)
    | none => none)
  | some (.ex c fs, m) => some (.ex c fs, m)
  | none => none
@[simp] theorem iSeqD_ap {da : DE} {env : Ev} {m : Mem} : iSeqD da env m = iSeqK (da env m) := rfl
@[simp] theorem iSeqK_tup {xs : List Vl} {m : Mem} : iSeqK (some (.ok (.tup xs), m)) = some (.ok xs, m) := rfl
@[simp] theorem iSeqK_lst {xs : List Vl} {m : Mem} : iSeqK (some (.ok (.lst xs), m)) = some (.ok xs, m) := rfl
@[simp] theorem iSeqK_frl {xs : List Vl} {m : Mem} : iSeqK (some (.ok (.frl xs), m)) = some (.ok xs, m) := rfl
@[simp] theorem iLst_ap {da : DE} {env : Ev} {m : Mem} : iLst da env m = bindR (da env m) fun x m => match staD x with
  | some xs => some (.ok xs, m)
  | none => none := rfl
@[simp] theorem iTupD_ap {da : DE} {env : Ev} {m : Mem} : iTupD da env m = bindR (da env m) fun x m => match x with
  | .tup xs => some (.ok xs, m)
  | _ => none := rfl
@[simp] theorem wLst_ap {da : DE} {env : Ev} {m : Mem} : wLst da env m = bindR (da env m) fun x m => match wkOf m x with
  | some w => some (.ok w, m)
  | none => none := rfl
@[simp] theorem iRg1_ap {d : DA} {env : Ev} {m : Mem} : iRg1 d env m = bindR (d env m) fun xs m => match rng1 xs with
  | some ys => some (.ok ys, m)
  | none => none := rfl
@[simp] theorem iRg2_ap {d : DA} {env : Ev} {m : Mem} : iRg2 d env m = bindR (d env m) fun xs m => match rng2 xs with
  | some ys => some (.ok ys, m)
  | none => none := rfl
@[simp] theorem iEnm_ap {d : DA} {env : Ev} {m : Mem} : iEnm d env m = bindR (d env m) fun xs m => match xs with
  | [x] => (match staD x with
    | some ys => some (.ok (enumZ ys), m)
    | none => none)
  | _ => none := rfl
@[simp] theorem staD_lst {xs : List Vl} : staD (.lst xs) = some xs := rfl
@[simp] theorem staD_frl {xs : List Vl} : staD (.frl xs) = some xs := rfl
@[simp] theorem le_size {n : Nat} (h : n ≤ 1000) : n ≤ sizeLine := Nat.le_trans h (by decide)
/-! scripts -/
theorem mapO_scal {f : Vl → Option Vl} : ∀ {xs : List Vl}, (∀ x ∈ xs, f x = some x) → mapO f xs = some xs
  | [], _ => rfl
  | x :: xs, h => by
    unfold mapO
    rw [h x List.mem_cons_self]
    simp only [mapO_scal (xs := xs) fun y hy => h y (List.mem_cons_of_mem _ hy)]
theorem cut_all {xs : List Vl} {k : Nat} (h : xs.length ≤ k) : cutZ xs none (some (k : Int)) = xs := by
  unfold cutZ
  rw [HT.sIx_nat, HT.sIx_none, List.drop_zero]
  exact List.take_of_length_le (by simp only [Nat.sub_zero]; omega)
theorem cloL_ints : ∀ {k : Nat} (l : List Int), cloL k (l.map .int) = true
  | _, [] => rfl
  | k, x :: l => by
    show (clo k (.int x) && cloL k (l.map .int)) = true
    rw [cloL_ints l]
    rfl
/-! fields, texts, packed results -/
@[simp] theorem insD_ins {c : Str} {fs : List (Str × Vl)} {m : Mem} : insD m (.ins c fs) = some (c, fs) := rfl
theorem dFld_ins {cs : List Str} {f : Str} {de : DE} {env : Ev} {m m1 : Mem} {c : Str} {fs : List (Str × Vl)} {v : Vl} (h : de env m = some (.ok (.ins c fs), m1)) (h1 : cs.contains c = true) (h2 : fs.lookup f = some v) : dFld cs f de env m = some (.ok v, m1) := by
  unfold dFld
  rw [h, bindR_ok]
  simp only [insD_ins, h1, h2, if_true]
@[simp] theorem dFld_ap {cs : List Str} {f : Str} {de : DE} {env : Ev} {m : Mem} : dFld cs f de env m = bindR (de env m) fun x m => match insD m x with
  | some (c, fs) => if cs.contains c = true then (match fs.lookup f with
    | some v => some (.ok v, m)
    | none => none) else none
  | none => none := rfl
@[simp] theorem dAndV_ap {da db : DE} {env : Ev} {m : Mem} : dAndV da db env m = bindR (da env m) fun x m => match truD m x with
  | some true => db env m
  | some false => some (.ok x, m)
  | none => none := rfl
@[simp] theorem dOrV_ap {da db : DE} {env : Ev} {m : Mem} : dOrV da db env m = bindR (da env m) fun x m => match truD m x with
  | some true => some (.ok x, m)
  | some false => db env m
  | none => none := rfl
theorem fresh_val {gd : List Vl → List Vl → Mem → Option (R Vl × Mem)} {xs ys : List Vl} {m m1 : Mem} {fu : Nat} {x y : Vl} (h : gd xs ys [] = some (.ok x, m1)) (hx : cloL 0 xs = true) (hy : cloL 0 ys = true) (hz : cnv [] m.length m1 fu x = some y) : freshG kNone fu gd xs ys m = some (.ok y, m) := by
  unfold freshG freshR
  rw [hx, hy, h]
  have e : cellsK [] m.length m1 fu = some [] := rfl
  simp [kNone, hz, e]
theorem fresh_top {gd : List Vl → List Vl → Mem → Option (R Vl × Mem)} {xs ys zs : List Vl} {m : Mem} {fu : Nat} (h : gd xs ys [] = some (.ok (.obj 0), [.lst zs])) (hx : cloL 0 xs = true) (hy : cloL 0 ys = true) (hz : ∀ z ∈ zs, cnv [0] m.length [.lst zs] (fu + 1) z = some z) :
    freshG kTop (fu + 1) gd xs ys m = some (.ok (.obj m.length), m ++ [.lst zs]) := by
  have e1 : cnv [0] m.length [.lst zs] (fu + 1) (.obj 0) = some (.obj m.length) := rfl
  have e2 : cellsK [0] m.length [.lst zs] (fu + 1) = some [.lst zs] := by
    unfold cellsK mapO
    have : cnvC [0] m.length [.lst zs] (fu + 1) (.lst zs) = some (.lst zs) := by
      show (mapO (cnv [0] m.length [.lst zs] (fu + 1)) zs).map Cell.lst = _
      rw [mapO_scal hz]
      rfl
    simp only [List.getElem?_cons_zero, this, mapO]
  unfold freshG freshR
  rw [hx, hy, h]
  simp [kTop, e1, e2]
theorem cnv_ints {keep : List Nat} {b : Nat} {m : Mem} {fu : Nat} (l : List Int) : cnv keep b m (fu + 2) (.lst (l.map .int)) = some (.lst (l.map .int)) := by
  show (mapO (cnv keep b m (fu + 1)) (l.map .int)).map Vl.lst = _
  rw [mapO_scal fun x hx => ?_]
  · rfl
  · obtain ⟨i, _, rfl⟩ := List.mem_map.mp hx
    rfl
end Z
namespace Z
open PySem PySem.Spec PyProof.Rows L2
variable [Kd]
/-! ### exceptions are caught: from then on they are values -/
theorem exq_ok {P : Program} {w : World} {H : Hp} {h : Heap} {a C : Addr} {d : Option Addr} {oe : Obj} {vs : Array Value} (h1 : h.get? a = some oe) (h2 : oe.cls = .ref C) (h3 : oe.dict = d) (h4 : oe.data = .fields vs) : ObjOk P w H h a (exq a C d) :=
  ⟨⟨oe, vs, h1, h2, h3, h4⟩, ⟨oe, h1⟩, fun g1 g2 ⟨oe, vs, q1, q2⟩ k => ⟨oe, vs, k _ q1, q2⟩⟩
section
variable {X : Cx} {pins : List (Addr × Obj)} {σ : L2.St} {H : Hp} {s : Shared} {a : Addr} {oe : Obj} {o : HO}
/-- an object of ours that was not told of is told of from now on -/
theorem Inv.track (I : Inv X pins σ H s) (ha : s.heap.get? a = some oe) (hn : H a = none) (h0 : X.s_0.heap.get? a = none) (nL : a ≠ X.env.locals) (nC : ∀ x c, X.env.cells.lookup x = some c → c ≠ a) (np : ∀ p ∈ X.pn ++ pins, p.1 ≠ a)
    (hob : ObjOk X.prog X.w (upd H a o) s.heap a o) : Inv X pins σ (upd H a o) s := by
  have ne : ∀ {b : Addr} {u : HO}, H b = some u → b ≠ a := fun {b u} e => ne_of_none e hn
  refine ⟨I.ok, I.os, I.bare, ⟨I.base.keep, I.base.slot, fun b ob e n hx => ?_, I.base.there, fun b xs e => ?_, fun b ob u e => ?_, fun b ps e => ?_⟩, I.loc, I.cell, ?_, fun x c e => ?_, fun p hp => ?_, fun b u q => ?_, I.len⟩
  · rw [upd_ne (fun q => by subst q; rw [h0] at e; cases e)]
    exact I.base.free b ob e n hx
  · have := I.base.tups b xs e
    rw [upd_ne (ne this)]
    exact this
  · have := I.base.frzs b ob u e
    rw [upd_ne (ne this)]
    exact this
  · obtain ⟨more, h⟩ := I.base.tbls b ps e
    exact ⟨more, by rw [upd_ne (ne h)]; exact h⟩
  · rw [upd_ne (Ne.symm nL)]
    exact I.free
  · rw [upd_ne (nC x c e)]
    exact I.freeC x c e
  · obtain ⟨e, n, r⟩ := I.pin p hp
    exact ⟨e, by rw [upd_ne (np p hp)]; exact n, r⟩
  · by_cases hb : b = a
    · subst hb
      rw [upd_same] at q
      cases q
      exact hob
    · rw [upd_ne hb] at q
      exact (I.hok b u q).stay (fun _ _ _ q => q) (fun c hc => by rw [upd_ne (ne hc)]; exact hc) fun c xs hc => by rw [upd_ne (ne hc)]; exact hc
end
/-- which class is caught by which clause -/
abbrev ExT := Str → Str → Option Bool
def ExOk (K : PySem.W.Frag) (ex : ExT) : Prop := ∀ c k b, ex c k = some b → PySem.W.exmOne K (.ref (He.ga K c)) (.ref (He.ga K k)) = some b
abbrev Hz := Str × Option Nat × DS
/-- the name of a clause goes -/
def unname (i : Nat) : Option (Fl × Mem) → Option (Fl × Mem)
  | some (.nx env, m) => some (.nx (env.set i none), m)
  | some (.bk env, m) => some (.bk (env.set i none), m)
  | some (.ct env, m) => some (.ct (env.set i none), m)
  | some (.rt v, m) => some (.rt v, m)
  | _ => none
def noEx : Option (Fl × Mem) → Option (Fl × Mem)
  | some (.ex _ _ _, _) => none
  | r => r
def hdZ (ex : ExT) : List Hz → Str → List (Str × Vl) → DS
  | [], c, fs => fun env m => some (.ex c fs env, m)
  | (k, nm, ds) :: r, c, fs => fun env m => match ex c k with
    | none => none
    | some false => hdZ ex r c fs env m
    | some true => (match nm with
      | none => noEx (ds env m)
      | some i => unname i (ds (env.set i (some (.err c fs))) m))
def dTry (ex : ExT) (d : DS) (hs : List Hz) : DS := fun env m => match d env m with
  | some (.ex c fs env1, m1) => hdZ ex hs c fs env1 m1
  | r => r
inductive HdsZ (X : Cx) : List ExceptHandler → List Hz → Prop
  | nil : HdsZ X [] []
  | one {x : Str} {ds : DS} {b₀ : Stmt} {suite : List Stmt} {np pos' : Pos} {hds : List ExceptHandler} {l : List Hz} (hc : Names X x (.ref (He.ga X.K x)))
      (hsu : ∀ (a : Addr) (pn : List (Addr × Obj)), SSs (X.suite a pn) (b₀ :: suite) ds) (r : HdsZ X hds l) : HdsZ X (.ExceptHandler (some (.Name x np)) none (b₀ :: suite) pos' :: hds) ((x, none, ds) :: l)
  | as_ {x n : Str} {i : Nat} {ds : DS} {b₀ : Stmt} {suite : List Stmt} {np pos' : Pos} {hds : List ExceptHandler} {l : List Hz} (hc : Names X x (.ref (He.ga X.K x))) (hi : X.N[i]? = some n) (hln : X.env.kindOf n = some .local)
      (hsu : ∀ (a : Addr) (pn : List (Addr × Obj)), SSs (X.suite a pn) (b₀ :: suite) ds) (r : HdsZ X hds l) : HdsZ X (.ExceptHandler (some (.Name x np)) (some n) (b₀ :: suite) pos' :: hds) ((x, some i, ds) :: l)
/-- what the clauses wish of an exception of the body -/
def wTry (K : PySem.W.Frag) (ex : ExT) (W : WX) (D : Ends) (hs : List Hz) : WX := fun cls dd σ H => ∃ c fs ρ env m f m', cls = .ref (He.ga K c) ∧ S K ρ env m σ H ∧ XD K ρ H dd fs ∧ hdZ ex hs c fs env m = some (f, m') ∧ PoS K ρ H W D f m'
theorem rdS_try {K : PySem.W.Frag} {ex : ExT} {W : WX} {D : Ends} {hs : List Hz} {d : DS} {σ : L2.St} {H : Hp} (h : rdS K W (dTry ex d hs) D σ H) : rdS K (wTry K ex W D hs) d D σ H := by
  obtain ⟨ρ, env, m, f, m', s, e, p⟩ := h
  unfold dTry at e
  split at e
  · rename_i c fs env1 m1 h0
    exact ⟨ρ, env, m, _, _, s, h0, fun ρ' H' M E σ' re dd x => ⟨c, fs, ρ', env1, m1, f, m', rfl, ⟨M, re⟩, x, e, p.mono E⟩⟩
  · rename_i hne
    refine ⟨ρ, env, m, f, m', s, e, fun ρ' H' M E => ?_⟩
    have pp := p ρ' H' M E
    cases f with
    | ex c fs env1 => exact absurd e (hne c fs env1 m')
    | _ => exact pp
/-- the slot i of the frame is emptied behind the flow -/
def goes (i : Nat) (D : Ends) : Ends := ⟨fun σ H => D.nx (σ.set i none) H, D.rt, fun σ H => D.bk (σ.set i none) H, fun σ H => D.ct (σ.set i none) H⟩
theorem po_unname {K : PySem.W.Frag} {ρ : Lay} {H : Hp} {W : WX} {D : Ends} {i : Nat} {g f : Fl} {m2 m' : Mem} (e : unname i (some (g, m2)) = some (f, m')) (p : PoS K ρ H W D f m') :
    PoS K ρ H (fun _ _ _ _ => False) (goes i D) g m2 := fun ρ' H' M E => by
  cases g with
  | nx env => cases e; exact fun σ re => p ρ' H' M E _ re.unset
  | bk env => cases e; exact fun σ re => p ρ' H' M E _ re.unset
  | ct env => cases e; exact fun σ re => p ρ' H' M E _ re.unset
  | rt v => cases e; exact p ρ' H' M E
  | ex c fs env => cases e
theorem po_noEx {K : PySem.W.Frag} {ρ : Lay} {H : Hp} {W : WX} {D : Ends} {g f : Fl} {m2 m' : Mem} (e : noEx (some (g, m2)) = some (f, m')) (p : PoS K ρ H W D f m') : PoS K ρ H (fun _ _ _ _ => False) D g m2 := fun ρ' H' M E => by
  cases g with
  | nx env => cases e; exact p ρ' H' M E
  | bk env => cases e; exact p ρ' H' M E
  | ct env => cases e; exact p ρ' H' M E
  | rt v => cases e; exact p ρ' H' M E
  | ex c fs env => cases e
theorem unname_some {i : Nat} {r : Option (Fl × Mem)} {z : Fl × Mem} (h : unname i r = some z) : ∃ g m, r = some (g, m) := by
  cases r with
  | none => cases h
  | some q => exact ⟨q.1, q.2, rfl⟩
theorem noEx_some {r : Option (Fl × Mem)} {z : Fl × Mem} (h : noEx r = some z) : ∃ g m, r = some (g, m) := by
  cases r with
  | none => cases h
  | some q => exact ⟨q.1, q.2, rfl⟩
theorem rv_err {K : PySem.W.Frag} {ρ : Lay} {m : Mem} {H : Hp} {a : Addr} {c : Str} {fs : List (Str × Vl)} {dd : Option Addr} (M : RM K ρ m H) (x : XD K ρ H dd fs) (na : H a = none) : RV K ρ (upd H a (exq a (He.ga K c) dd)) (.err c fs) (.ref a) := by
  have x' := x.mono (ext_new (ρ := ρ) (o := exq a (He.ga K c) dd) na)
  cases dd with
  | none =>
    have q : fs = [] := x'
    subst q
    exact ⟨a, _, [], rfl, M.fresh na, upd_same, .inr ⟨rfl, rfl⟩, rfl⟩
  | some d =>
    obtain ⟨gs, h1, n, h2⟩ := x'
    exact ⟨a, _, gs, rfl, M.fresh na, upd_same, .inl ⟨d, rfl, n, h1⟩, h2⟩
theorem takesN {Y : Cx} : Takes Y (fun _ _ _ _ => False) := takesNo
/-! an exception that is in our hand -/
/-- a, of the class cls, its dict at dd: noted, its flight none; s is the state with it, sI the one without -/
structure Hand (X : Cx) (pins : List (Addr × Obj)) (a : Addr) (cls : Value) (dd : Option Addr) (σ : L2.St) (H : Hp) (s : Shared) : Prop where
  ex : ∃ (B : Heap) (sI : Shared), Inv X pins σ H sI ∧ (∀ b o, sI.heap.get? b = some o → b ∉ frs X.stack → B.get? b = some o) ∧ sI.heap.UpToSlots s.heap ∧ s.os = sI.os ∧ AllBare s.gens ∧
    HandSPX.FlyingZ B (X.env :: X.outer) a (Zk cls dd) s.heap
  na : H a = none
  stk : X.stack = X.env :: X.outer
  frm : X.env.frame = some X.env.locals
  noex : X.ex = []
section
variable {X Y : Cx} {pins pins' : List (Addr × Obj)} {σ : L2.St} {H : Hp} {s : Shared} {a : Addr} {cls : Value} {dd : Option Addr} {D : Ends}
theorem sp_map {f : Flow} (k : ∀ σ H, Inv Y pins' σ H s → Inv X pins σ H s) (q : SP Y pins' D f s) : SP X pins D f s := by
  cases f with
  | ret u => exact let ⟨v, σ', H', I, r, d⟩ := q; ⟨v, σ', H', k _ _ I, r, d⟩
  | next => exact let ⟨σ', H', I, d⟩ := q; ⟨σ', H', k _ _ I, d⟩
  | brk => exact let ⟨σ', H', I, d⟩ := q; ⟨σ', H', k _ _ I, d⟩
  | cont => exact let ⟨σ', H', I, d⟩ := q; ⟨σ', H', k _ _ I, d⟩
theorem sp_goes {M : Model} {A : Around} {E : Value → Shared → Prop} {f : Flow} {t : Sem Unit} {i : Nat} (k : ∀ σ H Q, Inv Y pins' σ H s → (∀ s', Inv X pins (σ.set i none) H s' → Q () s') → wpAny M A t Q E s)
    (q : SP Y pins' (goes i D) f s) : wpAny M A t (fun _ s' => SP X pins D f s') E s := by
  cases f with
  | ret u => exact let ⟨v, σ', H', I, r, d⟩ := q; k _ _ _ I fun s' J => ⟨v, _, H', J, r, d⟩
  | next => exact let ⟨σ', H', I, d⟩ := q; k _ _ _ I fun s' J => ⟨_, H', J, d⟩
  | brk => exact let ⟨σ', H', I, d⟩ := q; k _ _ _ I fun s' J => ⟨_, H', J, d⟩
  | cont => exact let ⟨σ', H', I, d⟩ := q; k _ _ _ I fun s' J => ⟨_, H', J, d⟩
theorem Hand.inv (h : Hand X pins a cls dd σ H s) : Inv X pins σ H s := let ⟨_, _, I, nb, up, os, ag, fl⟩ := h.ex; I.landed nb fl.1 up os ag
theorem Hand.here (h : Hand X pins a cls dd σ H s) : ∃ (oe : Obj) (vs : Array Value), s.heap.get? a = some oe ∧ oe.cls = cls ∧ oe.dict = dd ∧ oe.data = .fields vs :=
  let ⟨_, _, _, _, _, _, _, fl⟩ := h.ex
  let ⟨oe, vs, e, z, d⟩ := fl.there
  ⟨oe, vs, e, z.1.1, z.1.2, d⟩
/-- it is none of the frames -/
theorem Hand.noFrame (h : Hand X pins a cls dd σ H s) : a ∉ frs (X.env :: X.outer) := fun hm => by
  obtain ⟨_, _, _, _, _, _, _, fl⟩ := h.ex
  obtain ⟨oe, vs, e, _, _, d⟩ := h.here
  obtain ⟨_, o, ho, hd⟩ := fl.2.2.1.mem hm
  rw [e] at ho
  cases ho
  exact hd vs d
theorem Hand.apart (h : Hand X pins a cls dd σ H s) : X.s_0.heap.get? a = none ∧ a ≠ X.env.locals ∧ (∀ x c, X.env.cells.lookup x = some c → c ≠ a) ∧ ∀ p ∈ X.pn ++ pins, p.1 ≠ a := by
  have nf := h.noFrame
  have hI := h.inv
  obtain ⟨oe, vs, e, _, _, d⟩ := h.here
  obtain ⟨B, sI, I, nb, up, os, ag, fl⟩ := h.ex
  have nI : sI.heap.get? a = none := by
    rcases hz : sI.heap.get? a with _ | o
    · rfl
    · have := (nb a o hz (by rw [h.stk]; exact nf)).symm.trans fl.2.1
      cases this
  refine ⟨?_, fun z => nf ?_, fun x c hc z => ?_, fun p hp z => ?_⟩
  · rcases hz : X.s_0.heap.get? a with _ | o
    · rfl
    · obtain ⟨o', q⟩ := I.base.there a o hz (by rw [h.noex]; exact fun q => nomatch q)
      cases nI.symm.trans q
  · unfold frs
    rw [List.filterMap_cons, h.frm, z]
    exact List.mem_cons_self
  · obtain ⟨v, o, ho, hd⟩ := hI.cell x c hc
    subst z
    cases e.symm.trans ho
    cases d.symm.trans hd
  · have := (I.pin p hp).1
    rw [z, nI] at this
    cases this
/-- its flight is none once more -/
theorem Hand.again {M : Model} {A : Around} {E : Value → Shared → Prop} {Q : Unit → Shared → Prop} (h : Hand X pins a cls dd σ H s) (k : ∀ s', Hand X pins a cls dd σ H s' → Q () s') : wpAny M A (setFlight (.ref a) none) Q E s := by
  obtain ⟨B, sI, I, nb, up, os, ag, fl⟩ := h.ex
  exact HandSPX.lands_againZ fl fun _ fl' up' => k _ ⟨⟨B, sI, I, nb, up.trans up', os, ag, fl'⟩, h.na, h.stk, h.frm, h.noex⟩
/-- no clause is left: on it flies -/
theorem Hand.onward {W : WX} (h : Hand X pins a cls dd σ H s) (tk : Takes X W) (w : W cls dd σ H) : wpAny (model X.prog X.w) X.A (handleBy (.ref a) X.env []) (SP X pins D) X.xe s := by
  obtain ⟨B, sI, I, nb, up, os, ag, fl⟩ := h.ex
  have go : wpAny (model X.prog X.w) X.A (setFlight (.ref a) X.env.frame) (fun _ s4 => wpAny (model X.prog X.w) X.A (throw (.ref a) : Sem Flow) (SP X pins D) X.xe s4) X.xe s := by
    rw [h.frm]
    exact HandSPX.setFlight_upZ fl fun _ hh up' => wpAny_throw (tk.up ⟨a, B, sI, pins, σ, H, cls, dd, rfl, I, nb, up.trans up', .inr (.inr (h.stk ▸ hh)), h.na, os, ag, w⟩)
  obtain ⟨_, _, _, oe, vs, T, _, _, e1, _, e2, e3, _⟩ := id fl
  refine wpAny_handleBy_nil (wpAny_bind (wpAny_field e1 e2 e3 ?_))
  have nt : ¬ ((Value.ref T == Value.none) = true) := by simp
  rw [if_neg nt]
  first
    | exact wpAny_bind go
    | exact wpAny_bind (wpAny_pure (wpAny_bind go))
/-- the suite's state, from ours -/
theorem Hand.suite (h : Hand X pins a cls dd σ H s) : Inv (X.suite a (X.pn ++ pins)) [] σ H s :=
  have I := h.inv
  { ok := I.ok.suite a _, os := I.os, bare := I.bare, base := I.base, loc := I.loc, cell := I.cell, free := I.free, freeC := I.freeC, pin := fun p hp => I.pin p (by simpa using hp), hok := I.hok, len := I.len }
theorem of_suite {pn' : List (Addr × Obj)} (ok : X.Ok) (I : Inv (X.suite a (X.pn ++ pins)) pn' σ H s) : Inv X pins σ H s :=
  { ok := ok, os := I.os, bare := I.bare, base := I.base, loc := I.loc, cell := I.cell, free := I.free, freeC := I.freeC, pin := fun p hp => I.pin p (List.mem_append_left _ hp), hok := I.hok, len := I.len }
theorem to_suite (I : Inv X pins σ H s) : Inv (X.suite a (X.pn ++ pins)) [] σ H s :=
  { ok := I.ok.suite a _, os := I.os, bare := I.bare, base := I.base, loc := I.loc, cell := I.cell, free := I.free, freeC := I.freeC, pin := fun p hp => I.pin p (by simpa using hp), hok := I.hok, len := I.len }
/-- the class of a clause is looked up -/
theorem Hand.test {x : Str} {c : Str} {b : Bool} {np : Pos} {Q : Value → Shared → Prop} {Qb : Bool → Shared → Prop} {E : Value → Shared → Prop} (h : Hand X pins a (.ref (He.ga X.K c)) dd σ H s) (hc : Names X x (.ref (He.ga X.K x))) (q : Q (.ref (He.ga X.K x)) s) :
    wpAny (model X.prog X.w) (X.A.mark (some (.ref a))) (eval (.Name x np) X.env) Q E s := by
  obtain ⟨hg, hd, hm | ⟨hm, hv, hn⟩⟩ := hc
  · exact ld_glob (X := X.suite a (X.pn ++ pins)) h.suite hg hm q hd
  · exact ld_blt (X := X.suite a (X.pn ++ pins)) h.suite hg hm hv q hn hd
theorem Hand.matches {x c : Str} {b : Bool} (h : Hand X pins a (.ref (He.ga X.K c)) dd σ H s) (e : PySem.W.exmOne X.K (.ref (He.ga X.K c)) (.ref (He.ga X.K x)) = some b) : PySem.W.Looks (model X.prog X.w) s.heap (excMatches (.ref a) (.ref (He.ga X.K x))) b := by
  obtain ⟨oe, vs, e1, e2, _⟩ := h.here
  exact PySem.W.exm_one h.inv.kIn (fun _ _ _ _ k q => wpAny_typeOf_ref (k _ _ e1) (by rw [e2]; exact q)) e
end
/-- the clauses of a try, over an exception in our hand -/
theorem handle {X : Cx} {pins : List (Addr × Obj)} {ex : ExT} {W : WX} {D : Ends} {a : Addr} {dd : Option Addr} {c : Str} {fs : List (Str × Vl)} {σ : L2.St} {H : Hp} {s : Shared} (hN : X.N.Nodup) (hE : ExOk X.K ex) (tk : Takes X W) (h : Hand X pins a (.ref (He.ga X.K c)) dd σ H s)
    {ρ : Lay} {env : Ev} {m : Mem} (hS : S X.K ρ env m σ H) (hX : XD X.K ρ H dd fs) : ∀ {hds : List ExceptHandler} {l : List Hz} {f : Fl} {m' : Mem}, HdsZ X hds l → hdZ ex l c fs env m = some (f, m') → PoS X.K ρ H W D f m' →
      wpAny (model X.prog X.w) X.A (handleBy (.ref a) X.env hds) (SP X pins D) X.xe s := by
  have ok := h.inv.ok
  intro hds l f m' hk
  induction hk with
  | nil =>
    intro e p
    cases e
    exact h.onward tk (p ρ H hS.mem .refl σ hS.env dd hX)
  | @one x ds b₀ suite np pos' hds l hc hsu r ih =>
    intro e p
    unfold hdZ at e
    rcases hx : ex c x with _ | b
    · rw [hx] at e
      cases e
    · rw [hx] at e
      refine wpAny_handleBy_cons (codeAny_handlers_test (h.test (Qb := fun _ _ => True) (b := b) hc ((h.matches (hE c x b hx)).here ?_))) (by intro q; cases q)
      cases b with
      | false => exact ih e p
      | true =>
        obtain ⟨g, m2, hg⟩ := noEx_some e
        rw [hg] at e
        refine codeAny_handlers_suite (h.again fun s4 h4 => ?_)
        exact wpAny_mono (((hsu a (X.pn ++ pins)).run (fun _ _ _ _ => False) takesN).run [] s4 σ H D h4.suite ⟨ρ, env, m, g, m2, hS, hg, po_noEx e p⟩) (fun f s6 q => sp_map (fun _ _ I => of_suite ok I) q) fun _ _ z => z.elim
  | @as_ x n i ds b₀ suite np pos' hds l hc hi hln hsu r ih =>
    intro e p
    unfold hdZ at e
    rcases hx : ex c x with _ | b
    · rw [hx] at e
      cases e
    · rw [hx] at e
      refine wpAny_handleBy_cons (codeAny_handlers_test (h.test (Qb := fun _ _ => True) (b := b) hc ((h.matches (hE c x b hx)).here ?_))) (by intro q; cases q)
      cases b with
      | false => exact ih e p
      | true =>
        replace e : unname i (ds (env.set i (some (.err c fs))) m) = some (f, m') := e
        obtain ⟨g, m2, hg⟩ := unname_some e
        rw [hg] at e
        refine codeAny_handlers_suite_as (h.again fun s4 h4 => ?_)
        obtain ⟨oe, vs, e1, e2, e3, e4⟩ := h4.here
        obtain ⟨q0, qL, qC, qP⟩ := h4.apart
        have T4 : Inv X pins σ (upd H a (exq a (He.ga X.K c) dd)) s4 := Inv.track h4.inv e1 h4.na q0 qL qC qP (exq_ok e1 e2 e3 e4)
        have E4 := ext_new (ρ := ρ) (o := exq a (He.ga X.K c) dd) h4.na
        have S4 := hS.to E4 (hS.mem.laid h4.na)
        refine store_ok (X := X.suite a (X.pn ++ pins)) (v := .ref a) (to_suite T4) hN hi (.inl hln) rfl (fun s5 I5 => ?_) (.inr hln)
        exact wpAny_mono (((hsu a (X.pn ++ pins)).run (fun _ _ _ _ => False) takesN).run [] s5 _ _ (goes i D) I5 ⟨ρ, _, m, g, m2, ⟨S4.mem, S4.env.set (rv_err hS.mem hX h4.na)⟩, hg, po_unname e (p.mono E4)⟩)
          (fun f s6 q => sp_goes (fun σ6 H6 Q6 I6 k6 => gone_ok (of_suite ok I6) hN hi hln k6) q) fun _ _ z => z.elim
section
variable {X : Cx} {body : List Stmt} {h₀ : ExceptHandler} {hds : List ExceptHandler} {l : List Hz} {ex : ExT} {d : DS} {pos : Pos}
theorem ss_try (hs : X.stack = X.env :: X.outer) (hf : X.env.frame = some X.env.locals) (hex : X.ex = []) (hN : X.N.Nodup) (hE : ExOk X.K ex)
    (hb : ∀ (pn : List (Addr × Obj)) (xe : Value → Shared → Prop), PassesOwn (model X.prog X.w) X.A X.env xe → SSs (X.tr pn xe) body d)
    (hh : HdsZ X (h₀ :: hds) l) : SS X (.Try body (h₀ :: hds) [] [] pos) (dTry ex d l) := ⟨fun W tk => impPS (t := fun D σ H => rdS X.K (wTry X.K ex W D l) d D σ H) ⟨fun pins s σ H D I h => wpAny_Try_except (by
  have ok := I.ok
  have hb' := hb (X.pn ++ pins) _ (PassesOwn.looking (E₁ := X.xe) (K := fun e s2 => wpAny (model X.prog X.w) X.A (setFlight e none) (fun _ s3 => wpAny (model X.prog X.w) X.A (handleBy e X.env (h₀ :: hds)) (SP X pins D) X.xe s3) X.xe s2))
  refine wpAny_mono ((hb'.run (wTry X.K ex W D l) (.of fun u s' xx => ?_)).run [] s σ H D (I.toTry _) h) (fun f s1 q => ?_) fun _ _ he => he
  · obtain ⟨a, B, sI, pins', σ', H', cls, dd, rfl, J, nb, up, sky, na, os, ag, c, fs, ρ, env, m, f, m', rfl, hS, hX, e, p⟩ := xx
    have hfr : X.A.frames = some (X.env :: X.outer) := ok.frames.trans (congrArg some hs)
    refine L2N.Sky.land Zk.steady hfr hf (hs ▸ sky) fun h3 fl up3 => ?_
    exact handle (s := { s' with heap := h3 }) hN hE tk ⟨⟨B, sI, J.ofTry ok, nb, up.trans up3, os, ag, fl⟩, na, hs, hf, hex⟩ hS hX hh e p
  · have q2 : SP X pins D f s1 := sp_map (fun _ _ J => J.ofTry ok) q
    cases f with
    | next => exact wpAny_execs_nil q2
    | ret u => exact q2
    | brk => exact q2
    | cont => exact q2)⟩ fun D σ H h => rdS_try h⟩
end
end Z
namespace Z
open PySem PySem.Spec PyProof.Rows L2
variable [Kd]
/-! ### own errors: a class over a built-in one, whose __init__ says super().__init__(a text), self.f = a parameter -/
structure BaseF (B initId newId : String) (bmB : List Value) : Prop where
  fb : ExcBaseFacts B newId initId bmB
  kf : PySem.W.KxsFacts B initId
  sf : StoreFacts B bmB "object.__setattr__" "object"
theorem base_ValueError : BaseF "ValueError" "ValueError.__init__" "ValueError.__new__" [.type "ValueError", .type "Exception", .type "BaseException", .type "object"] := ⟨F.excBase_ValueError, PySem.W.kxs_ValueError, F.store_ValueError⟩
theorem base_LookupError : BaseF "LookupError" "LookupError.__init__" "LookupError.__new__" [.type "LookupError", .type "Exception", .type "BaseException", .type "object"] := ⟨F.excBase_LookupError, PySem.W.kxs_LookupError, F.store_LookupError⟩
theorem base_RuntimeError : BaseF "RuntimeError" "RuntimeError.__init__" "RuntimeError.__new__" [.type "RuntimeError", .type "Exception", .type "BaseException", .type "object"] := ⟨F.excBase_RuntimeError, PySem.W.kxs_RuntimeError, F.store_RuntimeError⟩
theorem base_OverflowError : BaseF "OverflowError" "OverflowError.__init__" "OverflowError.__new__" [.type "OverflowError", .type "ArithmeticError", .type "Exception", .type "BaseException", .type "object"] := ⟨F.excBase_OverflowError, PySem.W.kxs_OverflowError, F.store_OverflowError⟩
/-- the facts of such a class at C, its field f -/
structure ErrI (P : Program) (K : PySem.W.Frag) (C : Addr) (f : Str) where
  B : String
  initId : String
  newId : String
  bmB : List Value
  base : BaseF B initId newId bmB
  fI : Addr
  cc : Addr
  cda : Addr
  qual : Str
  ar : Arg
  arp : Arg
  scope : Scope
  txt : Str
  p0 : Pos
  p1 : Pos
  p2 : Pos
  p3 : Pos
  p4 : Pos
  p5 : Pos
  q0 : Pos
  q1 : Pos
  q2 : Pos
  q3 : Pos
  ck : Nat
  kV : Value
  doc : Value
  pm : Value
  ct : Value
  an : Option Addr
  oc : Value
  od : Option Addr
  osl : Array (Option Value)
  lk : K.lookup fI = some ⟨oc, od, .func (PySem.W.ksFn "__init__" qual ⟨[], [ar, arp], none, [], [], none, []⟩ [.Expr (.Call (.Attribute (.Call (.Name "super" p0) [] [] p1) "__init__" p2) [.Constant (.str txt) ck p3] [] p4) p5, .Assign [.Attribute (.Name ar.arg q0) f q1] (.Name arp.arg q2) q3] scope .none kV doc pm an (.ref cda) ct cc), osl⟩
  code : PySem.W.codeIn K (.ref cda) qual = true
  cvs : Array Value
  file : Str
  tf : Tok
  ccl : Value
  cdd : Option Addr
  ccs : Array (Option Value)
  lcd : K.lookup cda = some ⟨ccl, cdd, .fields cvs, ccs⟩
  lvs : cvs[2]? = some (.str file tf)
  lfile : (P.main.file == file) = true
  ltop : (P.main.scope.names.lookup ("super" : Str)).isSome = false
  cl : Value
  cld : Option Addr
  csl : Array (Option Value)
  lcell : K.lookup cc = some ⟨cl, cld, .cell (some (.ref C)), csl⟩
  cdC : ClassData
  lC : PySem.W.clsIn K C = some cdC
  sup : scope.names.lookup ("super" : Str) = some .globalImplicit
  scl : scope.names.lookup ("__class__" : Str) = some .free
  sar : scope.names.lookup ar.arg = some .local
  sap : scope.names.lookup arp.arg = some .local
  kind : scope.kind = .function
  co : scope.isCoroutine = false
  gen : scope.isGenerator = false
  nocell : ∀ x ∈ scope.names, x.2 ≠ .cell
  bind : ∀ a b : Value, bindArgs (PySem.W.ksFn "__init__" qual ⟨[], [ar, arp], none, [], [], none, []⟩ [.Expr (.Call (.Attribute (.Call (.Name "super" p0) [] [] p1) "__init__" p2) [.Constant (.str txt) ck p3] [] p4) p5, .Assign [.Attribute (.Name ar.arg q0) f q1] (.Name arp.arg q2) q3] scope .none kV doc pm an (.ref cda) ct cc) ⟨[a, b], []⟩ = pure [(ar.arg, a), (arp.arg, b)]
  pl : Env → Sem Bool
  hev : ∀ env : Env, eval (.Call (.Attribute (.Call (.Name "super" p0) [] [] p1) "__init__" p2) [.Constant (.str txt) ck p3] [] p4) env = (do
      let ov ← attributeBase (.Call (.Name "super" p0) [] [] p1) "__init__" env (eval (.Call (.Name "super" p0) [] [] p1) env)
      standAt p2.atName
      let (f, first) ← holding [ov] (getMethod ov "__init__" (pl env))
      callWith p4 f first (backTo p4 (starEach [.Constant (.str txt) ck p3] env)) [])
  dist : ar.arg ≠ arp.arg
  nodb : (ar.arg == ("__debug__" : Str)) = false
  nodp : (arp.arg == ("__debug__" : Str)) = false
  mroC : PySem.W.mroIn K C (.ref C) = some true
  above : PySem.W.ks_superIn K C C "__init__" = some (some (.builtin initId))
  sub : PySem.W.subIn K (.ref C) (.type B) = some true
  opq : PySem.W.nsIn K cStatics "thirdparty.any" = some none
  xin : PySem.W.excInitIn K C bmB newId = true
  sat : PySem.W.findIn K (.ref C) "__setattr__" = some (some (.builtin "object.__setattr__"))
  over : PySem.W.excOver K C bmB = true
  tak : PySem.W.takerIn K C f = some none
  hdC : PySem.W.hasDictIn K C = true
  ini : PySem.W.findIn K (.ref C) "__init__" = some (some (.ref fI))
  tyI : PySem.W.typeIn K (.ref fI) = some (.type "function")
  exC : PySem.W.subIn K (.ref C) (.type "BaseException") = some true
  tyC : PySem.W.typeIn K (.ref C) = some (.type "type")
  kC : PySem.W.keepIn K (.ref C) = true
section
variable {P : Program} {w : World} {A : Around} {R : Result → Shared → Prop} {K : PySem.W.Frag} {mg mb : Str → Option Value} {hp : Heap} {g : Array GenState} {dr : Drawn} {tk : Nat} {os : OsState} {C : Addr} {f : Str}
theorem mem5 {α : Type} {a b c d e : α} : e ∈ [a, b, c, d, e] := by simp
theorem mem4 {α : Type} {a b c d : α} : d ∈ [a, b, c, d] := by simp
theorem mem3 {α : Type} {a b c : α} : c ∈ [a, b, c] := by simp
/-- the state behind the making of the object, ahead of its __init__ -/
theorem err_init (Er : ErrI P K C f) (X : K.In hp) (hg : hp.Ns mainGlobals mg) (hm : mg "super" = none) (hb : hp.Ns builtinsNs mb) (hbb : ∀ x : Str, x ≠ "__name__" → mb x = bootBuiltins x) (hl : hp.NoLimit) (room : A.depth < recursionLimit) {u : Value}
    (hq : ∀ (h' : Heap) (dx t' : Addr) (hsh : Int) (tq tk' : Nat), (∀ b o, hp.get? b = some o → h'.get? b = some o) → h'.get? (hp.objs.size + 1) = some (PySem.W.excObj C t' (some dx) .none) → h'.get? dx = some (PySem.W.dictOf [⟨hsh, .str f tq, u⟩] 1) →
      hp.objs.size ≤ dx → dx ≠ hp.objs.size + 1 → R (.ok (.ret .none)) ⟨h', g, dr, tk', os⟩) :
    codeAny (model P w) A (.call (.ref Er.fI) ⟨[.ref (hp.objs.size + 1), u], []⟩) R ⟨(hp.push (PySem.W.excTup [u])).push (PySem.W.excObj C hp.objs.size none .none), g, dr, tk, os⟩ := by
  have kk : ∀ b o, hp.get? b = some o → ((hp.push (PySem.W.excTup [u])).push (PySem.W.excObj C hp.objs.size none .none)).get? b = some o := fun b o e => Heap.get?_push_of_some _ (Heap.get?_push_of_some _ e)
  have hx : ((hp.push (PySem.W.excTup [u])).push (PySem.W.excObj C hp.objs.size none .none)).get? (hp.objs.size + 1) = some (PySem.W.excObj C hp.objs.size none .none) := by heap_get
  have ht : ((hp.push (PySem.W.excTup [u])).push (PySem.W.excObj C hp.objs.size none .none)).get? hp.objs.size = some (PySem.W.excTup [u]) := by heap_get
  have hsz : ((hp.push (PySem.W.excTup [u])).push (PySem.W.excObj C hp.objs.size none .none)).objs.size = hp.objs.size + 2 := by rw [Heap.size_push, Heap.size_push]
  have Xk := X.keeps kk
  refine ks_codeAny_call_defAt room (Xk _ _ Er.lk) rfl (hl.keeps kk) (PySem.W.codeRec_of Xk Er.code) rfl (.of_eq (Er.bind _ _)) Er.nocell ?_ (fun h0 hns hk => ?_) Er.co Er.gen Er.kind
  · intro y hy
    rcases List.mem_cons.mp hy with rfl | hy
    · exact Er.sar
    · rcases List.mem_cons.mp hy with rfl | hy
      · exact Er.sap
      · cases hy
  have hL : ((hp.push (PySem.W.excTup [u])).push (PySem.W.excObj C hp.objs.size none .none)).objs.size = hp.objs.size + 2 := hsz
  have nx : hp.get? (hp.objs.size + 1) = none := Heap.get?_none_of_le (Nat.le_add_right _ _)
  have F0 : PyProof.Rows.Fr hp (hp.objs.size + 2) h0 (fun y => [(Er.ar.arg, Value.ref (hp.objs.size + 1)), (Er.arp.arg, u)].reverse.lookup y) := ⟨hL ▸ hns, fun b o e => hk b o (kk b o e), Nat.le_add_right _ 2⟩
  have N0 : PyProof.Rows.News hp (hp.objs.size + 2) h0 [(hp.objs.size + 1, PySem.W.excObj C hp.objs.size none .none)] := fun p hp' => by
    rcases List.mem_cons.mp hp' with rfl | hp'
    · exact ⟨hk _ _ hx, Nat.ne_of_lt (Nat.lt_succ_self _), nx⟩
    · cases hp'
  have X0 : K.In h0 := X.keeps F0.keep
  obtain ⟨oC, hC1, hC2⟩ : ∃ oC, h0.get? C = some oC ∧ oC.data = .cls Er.cdC := by
    have e := Er.lC
    unfold PySem.W.clsIn at e
    split at e
    · rename_i c d cd sl ho
      cases e
      exact ⟨_, X0 _ _ ho, rfl⟩
    · cases e
  have hi : interactive (PySem.W.ksEnv Er.qual Er.scope (hp.objs.size + 2) Er.fI (.ref Er.cda) Er.cc) = false := by
    show ((Er.scope.kind == ScopeKind.module) && _) = false
    rw [Er.kind]
    rfl
  have I0 : PySem.W.InstAt h0 (hp.objs.size + 1) (PySem.W.excObj C hp.objs.size none .none) C none := ⟨hk _ _ hx, rfl, rfl, trivial⟩
  have look1 : ∀ y : Str, y = Er.ar.arg → [(Er.ar.arg, Value.ref (hp.objs.size + 1)), (Er.arp.arg, u)].reverse.lookup y = some (Value.ref (hp.objs.size + 1)) := fun y e => by
    subst e
    have d : (Er.ar.arg == Er.arp.arg) = false := by simpa using Er.dist
    simp [List.lookup, d]
  have look2 : [(Er.ar.arg, Value.ref (hp.objs.size + 1)), (Er.arp.arg, u)].reverse.lookup Er.arp.arg = some u := by simp [List.lookup]
  show _root_.PySem.wpAt (model P w) (A.deeper (PySem.W.ksEnv Er.qual Er.scope _ Er.fI (.ref Er.cda) Er.cc)) _ (execs _ (PySem.W.ksEnv Er.qual Er.scope _ Er.fI (.ref Er.cda) Er.cc)) _ _ _
  rw [hL]
  refine ks_wpAt_execs_cons (ks_wpAt_Expr_any (ks_wpAt_MethodCall ?_ (Er.hev _)) hi)
  refine ks_wpAt_super_base (f := Er.fI) (cc := Er.cda) (ar := Er.ar) Er.sup Er.scl (by decide +kernel) rfl (X0 _ _ Er.lk) rfl rfl rfl (X0 _ _ Er.lcd) rfl Er.lvs Er.lfile Er.ltop ?_
  refine PySem.W.ks_loadName_global Er.kind Er.sup (PySem.Calls.loadGlobal_builtin (hg.keeps F0.keep) hm (hb.keeps F0.keep) ((hbb _ (by decide +kernel)).trans PyProof.Rows.Boot.«super») ⟨rfl, ?_⟩)
  refine wpAny_loadName_free Er.kind Er.scl rfl ⟨_, X0 _ _ Er.lcell, rfl⟩ ?_
  refine wpAny_loadName_local Er.kind Er.sar F0.ns (look1 _ rfl) ?_
  refine ks_wpAny_isType_cls hC1 hC2 ⟨rfl, ?_⟩
  refine ks_wpAny_call_super hC1 hC2 I0.at_ I0.cls (fun c e => nomatch e) (PySem.W.looks_mroIn X0 Er.mroC) (fun h1 e1 k1 => ?_)
  obtain ⟨F1, N1, l1⟩ := PySem.W.ks_newsPush (s := ⟨h0, g, dr, 0, os⟩) F0 N0 rfl e1 k1
  refine PySem.W.kxs_method (pl := Er.pl _) Er.base.kf (s := ⟨h1, g, dr, _, os⟩) F1 X N1 List.mem_cons_self (PySem.W.InstAt.of_exc0 N1 (List.mem_cons_of_mem _ List.mem_cons_self)) Er.opq Er.above Er.sub (by decide +kernel) (fun q h2 F2 N2 l2 => ?_)
  refine PySem.W.kxs_callWith1 N2 List.mem_cons_self ?_
  refine PyProof.Rows.spliced_more (PySem.Calls.Constant_str ?_) (by rfl)
  refine PyProof.Rows.spliced_none ⟨PySem.W.kxs_at N2 List.mem_cons_self, ?_⟩
  have ne1 : h0.objs.size ≠ hp.objs.size + 1 := fun z => absurd (Heap.lt_size (hk _ _ hx)) (by rw [z]; exact Nat.lt_irrefl _)
  have ne2 : q ≠ hp.objs.size + 1 := Nat.ne_of_gt (l2 _ (List.mem_cons_of_mem _ List.mem_cons_self))
  refine PySem.W.kxs_call (s := ⟨h2, g, dr, _, os⟩) F2 X N2 Er.base.fb Er.xin List.mem_cons_self (.tail ne2 (.tail ne1 (.head (fun p hp' => nomatch hp')))) (show 1 ≤ sizeLine by decide) (fun t3 h3 F3 N3 l3 => ?_)
  refine ks_wpAt_execs_cons (ks_wpAt_Assign_Attr (wpAt_of_wpAny (PySem.ESX.ldL F3.ns look2 (PySem.ESX.ldL F3.ns (look1 _ rfl) ?_ Er.kind Er.sar Er.nodb) Er.kind Er.sap Er.nodp)))
  have ne3 : t3 ≠ hp.objs.size + 1 := Nat.ne_of_gt (l3 _ mem3)
  refine PySem.W.set_exc0 (s := ⟨h3, g, dr, _, os⟩) Er.base.sf F3 X N3 mem4 Er.sat Er.over Er.tak Er.hdC rfl (.tail ne3 (.tail ne2 (.tail ne1 (.head (fun p hp' => nomatch hp'))))) (show 1 ≤ 1000 by decide) (fun dx h4 F4 N4 l4 => ?_)
  have lt : hp.objs.size + 1 < dx := l4 _ mem4
  have N5 : PyProof.Rows.News hp (hp.objs.size + 2) h4 [_, _, _, _, (hp.objs.size + 1, PySem.W.excObj C t3 (some dx) .none)] := N4
  have m4 := N5 _ mem5
  have m5 := N5 _ List.mem_cons_self
  exact wpAt_of_wpAny (wpAny_pure (hq h4 dx t3 _ _ _ F4.keep m4.1 m5.1 (Nat.le_of_lt (Nat.lt_of_succ_lt lt)) (Nat.ne_of_gt lt)))
end
/-- the dict of such an error -/
theorem ns1_one {G : Heap} {dx : Addr} {f : Str} {hsh : Int} {tq : Nat} {u : Value} (h : G.get? dx = some (PySem.W.dictOf [⟨hsh, .str f tq, u⟩] 1)) : G.Ns1 dx (fun y => if y = f then some u else none) := by
  refine ⟨_, _, _, h, rfl, ?_, ?_, fun name => ?_⟩
  · intro e he
    have : e = ⟨hsh, .str f tq, u⟩ := by simpa using he
    subst this
    exact ⟨_, _, rfl⟩
  · unfold UniqKeys
    simp
  · by_cases q : name = f
    · subst q
      simp [nsFind, findBy, Value.isStr]
    · have q2 : ¬ f = name := fun z => q z.symm
      simp [nsFind, findBy, Value.isStr, q, q2]
section
variable {X : Cx} {pins : List (Addr × Obj)} {σ : L2.St} {H : Hp} {s : Shared} {C : Addr} {f : Str} {k : Nat}
/-- what C(e) leaves: a the error, dd its dict, sI the state without a -/
structure Made (X : Cx) (pins : List (Addr × Obj)) (σ : L2.St) (H : Hp) (C : Addr) (f : Str) (y : V) (u : Value) (s' : Shared) : Prop where
  ex : ∃ (a dd t : Addr) (sI : Shared), u = .ref a ∧ L2.Inv X pins σ (upd H dd (.xd [(f, y)])) sI ∧ (∀ b o, sI.heap.get? b = some o → s'.heap.get? b = some o) ∧ sI.heap.get? a = none ∧
    s'.heap.get? a = some (PySem.W.excObj C t (some dd) .none) ∧ H a = none ∧ H dd = none ∧ dd ≠ a ∧ s'.os = sI.os ∧ AllBare s'.gens
theorem err_call (Er : ErrI X.prog X.K C f) (I : L2.Inv X pins σ H s) (hm : X.mg "super" = none) (hr : Room (k + 1) X.A) {y : V} {u : Value} (ry : RelV y u) :
    wpAny (model X.prog X.w) X.A (call (.ref C) [u]) (Made X pins σ H C f y) X.xe s := by
  obtain ⟨mb, hb1, hb2⟩ := I.mod.blt
  obtain ⟨nm, N, qn, bs, bm, hdct, sn, sub, ab, col, dc, k0, k1, k2, k3, k5, hC, hT⟩ := PySem.W.excInit_of I.kIn Er.xin
  have glob := I.mod.glob.keeps I.bk
  have blt := hb1.keeps I.bk
  have nol := I.nolimit
  have kin := I.kIn
  have nx : H (s.heap.objs.size + 1) = none := I.hok.fresh (Nat.le_succ _)
  obtain ⟨hp, g, dr, tk, os⟩ := s
  refine wpAny_call (PySem.HandSPX.call_own Er.base.fb hT hC (PySem.W.looks_findIn kin Er.ini) (fun self => PySem.W.bind_fn kin self Er.tyI) (show 1 ≤ sizeLine by decide) (err_init Er kin glob hm blt hb2 nol (hr.make C [u] []).depth fun h' dx t' hsh tq tk' kp e1 e2 l1 l2 => ⟨rfl, ?_⟩))
  have nd : H dx = none := I.hok.fresh l1
  obtain ⟨G, g1, g2⟩ := restrict h' fun b => decide (b ≠ hp.objs.size + 1)
  have gk : ∀ b, b ≠ hp.objs.size + 1 → G.get? b = h'.get? b := fun b hb => g1 b (decide_eq_true hb)
  have gn : G.get? (hp.objs.size + 1) = none := g2 _ (by simp)
  refine ⟨hp.objs.size + 1, dx, t', ⟨G, g, dr, tk', os⟩, rfl, I.laid (fun b o e => ?_) l1 ⟨_, ns1_one ((gk _ l2).trans e2), fun z => ?_⟩, fun b o e => ?_, gn, e1, nx, nd, l2, rfl, I.bare⟩
  · rw [gk b (fun q => by subst q; exact absurd (Heap.lt_size e) (Nat.not_lt.mpr (Nat.le_succ _)))]
    exact kp b o e
  · by_cases q : z = f
    · subst q
      simp [List.lookup]
      exact ry
    · have q' : (z == f) = false := by simpa using q
      simp [List.lookup, q, q']
      trivial
  · by_cases q : b = hp.objs.size + 1
    · subst q
      rw [gn] at e
      cases e
    · rw [gk b q] at e
      exact e
end
/-! ### raise C(e), C(e) as a value -/
abbrev DM := Ev → Mem → Option (R (Str × List (Str × Vl)) × Mem)
def rdM (K : PySem.W.Frag) (W : WX) (d : DM) : L2.St → Hp → XK → Prop := fun σ H Q => ∃ ρ env m r m', S K ρ env m σ H ∧ d env m = some (r, m') ∧ ∀ ρ' H', RM K ρ' m' H' → Ext ρ H ρ' H' → match r with
  | .ok q => ∀ dd, XD K ρ' H' dd q.2 → Q (.ref (He.ga K q.1)) dd H'
  | .ex c fs => ∀ dd, XD K ρ' H' dd fs → W (.ref (He.ga K c)) dd σ H'
structure SMk (X : Cx) (e : Expr) (d : DM) : Prop where
  run : ∀ W, Takes X W → L2N.PMk X e (rdM X.K W d)
def dMk (c f : Str) (d : DA) : DM := fun env m => bindR (d env m) fun xs m => match xs with
  | [x] => some (.ok (c, [(f, x)]), m)
  | _ => none
def dErrV (c f : Str) (d : DA) : DE := fun env m => bindR (d env m) fun xs m => match xs with
  | [x] => some (.ok (.err c [(f, x)]), m)
  | _ => none
def dRaise (d : DM) : DS := fun env m => match d env m with
  | some (.ok q, m') => some (.ex q.1 q.2 env, m')
  | some (.ex c fs, m') => some (.ex c fs env, m')
  | none => none
section
variable {X : Cx} {e : Expr} {d : DA} {dm : DM} {c f : Str} {p pos : Pos} {k : Nat}
theorem sm_err (Er : ErrI X.prog X.K (He.ga X.K c) f) (hsup : X.mg "super" = none) (hr : Room (k + 1) X.A) (hm : X.mg c = some (.ref (He.ga X.K c))) (hg : Gl X c) (ha : SA X [e] d) (hdb : (c == ("__debug__" : Str)) = false := by decide)
    (he : starEach (e :: []) X.env = (false, eval e X.env) :: starEach [] X.env := by rfl) : SMk X (.Call (.Name c p) [e] [] pos) (dMk c f d) := ⟨fun W tk pins s σ H Q I h => by
  obtain ⟨ρ, env, m, r, m', st, ee, pp⟩ := h
  have h' : rdA X.K W d σ H (fun vs H1 => ∃ ρ1 x y, vs = [y] ∧ RM X.K ρ1 m' H1 ∧ RV X.K ρ1 H1 x y ∧ ∀ ρ' H', RM X.K ρ' m' H' → Ext ρ1 H1 ρ' H' → ∀ dd, XD X.K ρ' H' dd [(f, x)] → Q (.ref (He.ga X.K c)) dd H') := by
    unfold dMk bindR at ee
    split at ee
    · cases ee
    · rename_i xs m1 h0
      dsimp only at ee
      split at ee
      · rename_i x
        cases ee
        refine goA st h0 fun ρ' H' vs s' E rv => ?_
        obtain ⟨y, ys, rfl, r1, r2⟩ := rv
        have r2' : ys = [] := r2
        subst r2'
        exact ⟨ρ', x, y, rfl, s'.mem, r1, fun ρ2 H2 M2 E2 => pp ρ2 H2 M2 (E.trans E2)⟩
      · cases ee
    · rename_i c' fs' m1 h0
      cases ee
      exact exA st h0 fun ρ' H' dd s' E x => pp ρ' H' s'.mem E dd x
  refine wpAny_Call_Name_kw (ld_glob I hg hm ?_ hdb)
  refine PySem.W.callWith_K (h₀ := X.base) I.ok.mod.kin Er.kC (thn ((ha.run W tk).run pos pins s σ H _ I h') fun us s1 ⟨vs, H1, I1, rl, q⟩ => ⟨I1.kIn, ?_⟩) he rfl
  obtain ⟨ρ1, x, y, rfl, M1, rx, k1⟩ := q
  cases rl with
  | cons r1 r2 =>
    cases r2
    refine wpAny_mono (err_call Er I1 hsup hr r1) (fun u s2 mk => ?_) fun _ _ z => z
    obtain ⟨a, dd, t, sI, rfl, J, kp, na, ea, nh, nd, ne, os, ag⟩ := mk.ex
    have E1 := ext_new (ρ := ρ1) (o := .xd [(f, y)]) nd
    refine ⟨a, _, _, sI, _, .ref (He.ga X.K c), some dd, rfl, J, kp, na, ea, ⟨rfl, rfl, fun vs e => by cases e; rfl⟩, rfl, rfl, by rw [upd_ne (Ne.symm ne)]; exact nh, os, ag, raises_own Er.exC Er.tyC, ?_⟩
    exact k1 ρ1 _ (M1.laid nd) E1 (some dd) ⟨_, upd_same, M1.fresh nd, y, [], rfl, rx.mono E1, rfl⟩⟩
theorem ss_raise (hc : X.calm = true) (h : SMk X e dm) : SS X (.Raise (some e) none pos) (dRaise dm) := ⟨fun W tk => impPS (L2N.ps_raise hc tk.n (h.run W tk)) fun D σ H ⟨ρ, env, m, fl, m', s, ee, p⟩ => by
  unfold dRaise at ee
  split at ee
  · rename_i q m1 h0
    cases ee
    exact ⟨ρ, env, m, _, _, s, h0, fun ρ' H' M E dd x => p ρ' H' M E σ (s.env.mono E) dd x⟩
  · rename_i c' fs m1 h0
    cases ee
    exact ⟨ρ, env, m, _, _, s, h0, fun ρ' H' M E dd x => p ρ' H' M E σ (s.env.mono E) dd x⟩
  · cases ee⟩
/-- C(e) as a value -/
theorem se_errV (Er : ErrI X.prog X.K (He.ga X.K c) f) (hex : X.ex = []) (hsup : X.mg "super" = none) (hr : Room (k + 1) X.A) (hm : X.mg c = some (.ref (He.ga X.K c))) (hg : Gl X c) (ha : SA X [e] d) (hdb : (c == ("__debug__" : Str)) = false := by decide)
    (he : starEach (e :: []) X.env = (false, eval e X.env) :: starEach [] X.env := by rfl) : SE X (.Call (.Name c p) [e] [] pos) (dErrV c f d) := ⟨fun W tk => ⟨fun pins s σ H Q I h => by
  obtain ⟨ρ, env, m, r, m', st, ee, pp⟩ := h
  have h' : rdA X.K W d σ H (fun vs H1 => ∃ ρ1 x y, vs = [y] ∧ RM X.K ρ1 m' H1 ∧ RV X.K ρ1 H1 x y ∧ ∀ ρ' H', RM X.K ρ' m' H' → Ext ρ1 H1 ρ' H' → ∀ v, RV X.K ρ' H' (.err c [(f, x)]) v → Q v H') :=
    bindA st ee pp fun xs m1 ρ1 H1 vs s1 E1 r1 e1 p1 => by
      split at e1
      · rename_i x
        cases e1
        obtain ⟨y, ys, rfl, q1, q2⟩ := r1
        have q2' : ys = [] := q2
        subst q2'
        exact ⟨ρ1, x, y, rfl, s1.mem, q1, fun ρ2 H2 M2 E2 => p1 ρ2 H2 M2 E2⟩
      · cases e1
  refine wpAny_Call_Name_kw (ld_glob I hg hm ?_ hdb)
  refine PySem.W.callWith_K (h₀ := X.base) I.ok.mod.kin Er.kC (thn ((ha.run W tk).run pos pins s σ H _ I h') fun us s1 ⟨vs, H1, I1, rl, q⟩ => ⟨I1.kIn, ?_⟩) he rfl
  obtain ⟨ρ1, x, y, rfl, M1, rx, k1⟩ := q
  cases rl with
  | cons r1 r2 =>
    cases r2
    refine wpAny_mono (err_call Er I1 hsup hr r1) (fun u s2 mk => ?_) fun _ _ z => z
    obtain ⟨a, dd, t, sI, rfl, J, kp, na, ea, nh, nd, ne, os, ag⟩ := mk.ex
    obtain ⟨hI, gI, dI, tI, oI⟩ := sI
    obtain ⟨h2, g2, d2, t2, o2⟩ := s2
    have n0 : X.s_0.heap.get? a = none := by
      rcases hz : X.s_0.heap.get? a with _ | o
      · rfl
      · obtain ⟨o', q⟩ := J.base.there a o hz (by rw [hex]; exact fun q => nomatch q)
        cases na.symm.trans q
    have nh' : upd H1 dd (.xd [(f, y)]) a = none := by rw [upd_ne (Ne.symm ne)]; exact nh
    have J2 : L2.Inv X pins σ (upd H1 dd (.xd [(f, y)])) ⟨h2, g2, d2, t2, o2⟩ := by
      have e : o2 = oI := os
      subst e
      exact J.call' (ch := []) rfl (Un.kept kp) (J.hok.kept kp) ag (fun b z => absurd z (by simp))
    have T2 := Inv.track (o := exq a (He.ga X.K c) (some dd)) J2 ea nh' n0 (fun z => ?_) (fun y' c' hc z => ?_) (fun p hp z => ?_) (exq_ok ea rfl rfl rfl)
    · have E1 := ext_new (ρ := ρ1) (o := .xd [(f, y)]) nd
      have M2 := M1.laid (o := .xd [(f, y)]) nd
      exact ⟨.ref a, _, T2, rfl, k1 ρ1 _ (M2.laid nh') (E1.trans (ext_new nh')) _ (rv_err M2 (dd := some dd) ⟨_, upd_same, M1.fresh nd, y, [], rfl, rx.mono E1, rfl⟩ nh')⟩
    · obtain ⟨mm, hn, _⟩ := J.loc
      obtain ⟨o, _, _, ho, _⟩ := hn
      rw [← z] at ho
      cases na.symm.trans ho
    · obtain ⟨v, o, ho, _⟩ := J.cell y' c' hc
      rw [z] at ho
      cases na.symm.trans ho
    · have := (J.pin p hp).1
      rw [z] at this
      cases na.symm.trans this⟩⟩
end
end Z
namespace Z
open PySem PySem.Spec PyProof.Rows L2
variable [Kd]
/-! ### an error that is a value: its fields, its kinds -/
structure ErrK (K : PySem.W.Frag) (c : Str) : Prop where
  cl : (PySem.W.clsIn K (He.ga K c)).isSome = true
  ga : PySem.W.findIn K (.ref (He.ga K c)) "__getattribute__" = some (some (.builtin "BaseException.__getattribute__"))
  gg : PySem.W.findIn K (.ref (He.ga K c)) "__getattr__" = some none
  exC : PySem.W.subIn K (.ref (He.ga K c)) (.type "BaseException") = some true
  hdC : PySem.W.hasDictIn K (He.ga K c) = true
  ha : PySem.W.findIn K (.ref (He.ga K c)) "__class__" = some (some (.builtin "object.__class__"))
  hn : PySem.W.specialIn K (.builtin "object.__class__") "__get__" = some (some (.builtin "getset_descriptor.__get__"))
  ht : PySem.W.takesIn K (.builtin "object.__class__") = some true
  hm : PySem.W.mroIn K (He.ga K c) (.type "object") = some true
def ErrA (K : PySem.W.Frag) (cs : List Str) : Prop := ∀ c ∈ cs, ErrK K c
section
variable {X : Cx} {pins : List (Addr × Obj)} {σ : L2.St} {H : Hp} {s : Shared} {a C : Addr} {d : Option Addr} {gs : List (Str × V)} {ρ : Lay}
/-- the error at its address, with its dict -/
theorem err_inst (I : L2.Inv X pins σ H s) (e : H a = some (exq a C d)) (x : ErrD ρ H d gs) : ∃ (ox : Obj) (od : Option Obj), PySem.W.InstAt s.heap a ox C od ∧ ∀ f v, gs.lookup f = some v → ∃ o u, od = some o ∧ PySem.W.lookIn f o = some (some u) ∧ RelV v u := by
  have q : ObjOk X.prog X.w H s.heap a (exq a C d) := I.hok a _ e
  obtain ⟨⟨oe, vs, e1, e2, e3, e4⟩, _⟩ := q
  have nc : PySem.W.notCls oe = true := by
    unfold PySem.W.notCls
    rw [e4]
  rcases x with ⟨dd, rfl, _, hd⟩ | ⟨rfl, rfl⟩
  · have q2 : ObjOk X.prog X.w H s.heap dd (.xd gs) := I.hok dd _ hd
    obtain ⟨mA, hns, hr⟩ := q2
    obtain ⟨od, ho, hl⟩ := lookIn_ns hns
    refine ⟨oe, some od, ⟨e1, e2, nc, by rw [e3]; exact ho⟩, fun f v hv => ?_⟩
    obtain ⟨u, hu, ru⟩ := RelO.some_of (v := v) (o := mA f) (by rw [← hv]; exact hr f)
    exact ⟨od, u, rfl, by rw [hl, hu], ru⟩
  · exact ⟨oe, none, ⟨e1, e2, nc, by rw [e3]; trivial⟩, fun f v hv => nomatch hv⟩
end
/-- e.f -/
def dXf (cs : List Str) (f : Str) (de : DE) : DE := fun env m => bindR (de env m) fun x m => match x with
  | .err c fs => if cs.contains c = true then (match fs.lookup f with
    | some v => some (.ok v, m)
    | none => none) else none
  | _ => none
/-- isinstance(e, c) -/
def dIsE (cs : List Str) (kt : Kit) (de du : DE) : DE := fun env m => bindR (de env m) fun x m => bindR (du env m) fun u m => match x, clsD u with
  | .err c _, some t => if cs.contains c = true then (match kt (.c c) t with
    | some b => some (.ok (.bl b), m)
    | none => none) else none
  | _, _ => none
def dIsET (cs : List Str) (kt : Kit) (de : DE) (d : DA) : DE := fun env m => bindR (de env m) fun x m => bindR (d env m) fun us m => match x, clsDs us with
  | .err c _, some ts => if (cs.contains c && decide (us.length ≤ sizeLine)) = true then (match kitAnyD kt (.c c) ts with
    | some b => some (.ok (.bl b), m)
    | none => none) else none
  | _, _ => none
def rIsE1 (K : PySem.W.Frag) : List V → Hp → VK → Prop := fun xs H Q => ∃ (a : Addr) (c : Str) (d : Option Addr) (gs : List (Str × V)) (ρ : Lay) (t : V) (cv : Value) (b : Bool), xs = [.ref a, t] ∧ H a = some (exq a (He.ga K c) d) ∧ ErrD ρ H d gs ∧ ErrK K c ∧ ClsV t cv ∧ PySem.W.kitOne K (.ref (He.ga K c)) cv = some b ∧ Q (.bl b) H
def rIsE2 (K : PySem.W.Frag) : List V → Hp → VK → Prop := fun xs H Q => ∃ (a tp : Addr) (c : Str) (d : Option Addr) (gs : List (Str × V)) (ρ : Lay) (ts : List V) (ws : List Value) (b : Bool), xs = [.ref a, .ref tp] ∧ H tp = some (.tup ts) ∧ H a = some (exq a (He.ga K c) d) ∧ ErrD ρ H d gs ∧ ErrK K c ∧ Paired ClsV ts ws ∧ PySem.W.kitAny K (.ref (He.ga K c)) ws = some b ∧ Q (.bl b) H
section
variable {X : Cx} {e u : Expr} {es : List Expr} {de du : DE} {da : DA} {cs : List Str} {f : Str} {kt : Kit} {p pos : Pos}
theorem se_xf (he : SE X e de) (hE : ErrA X.K cs) (hf : ∀ c ∈ cs, PySem.W.findIn X.K (.ref (He.ga X.K c)) f = some none) (hb : attributeBase e f X.env (eval e X.env) = eval e X.env := by rfl) : SE X (.Attribute e f pos) (dXf cs f de) := ⟨fun W tk => ⟨fun pins s σ H Q I h => by
  obtain ⟨ρ, env, m, r, m', st, ee, pp⟩ := h
  have h' : rdE X.K W de σ H (fun v H1 => ∃ ρ1 c fs x, RM X.K ρ1 m' H1 ∧ RV X.K ρ1 H1 (.err c fs) v ∧ c ∈ cs ∧ fs.lookup f = some x ∧ ∀ w, RV X.K ρ1 H1 x w → Q w H1) :=
    bindE st ee pp fun y m1 ρ1 H1 v s1 E1 r1 e1 p1 => by
      split at e1
      · rename_i c fs
        split at e1
        · rename_i hc
          split at e1
          · rename_i x hx
            cases e1
            exact ⟨ρ1, c, fs, x, s1.mem, r1, List.contains_iff_mem.mp hc, hx, fun w rw' => p1 ρ1 H1 s1.mem .refl w rw'⟩
          · cases e1
        · cases e1
      · cases e1
  refine attr_of hb (thn ((he.run W tk).run pins s σ H _ I h') fun uu s1 ⟨v, H1, I1, rv, ρ1, c, fs, x, M1, ⟨a, d, gs, ev, n1, ea, xd, rf⟩, hc, hl, k1⟩ => ?_)
  subst ev
  obtain rfl : uu = Value.ref a := rv
  have T := hE c hc
  obtain ⟨w, hw, rw'⟩ := rf.get hl
  obtain ⟨ox, od, J, lk⟩ := err_inst I1 ea xd
  obtain ⟨o, u', rfl, hu, ru⟩ := lk f w hw
  exact HandSPX.exc_get I1.kIn J T.ga T.gg T.exC (PySem.W.findObj_own T.hdC (hf c hc) rfl hu) (handed_of ru) ⟨w, H1, I1.tok _, ru, k1 w rw'⟩⟩⟩
theorem kit_err {K : PySem.W.Frag} {c : Str} (T : ErrK K c) {a : Addr} {ox : Obj} {od : Option Obj} : PySem.W.KitX K (.ref a) (.ref (He.ga K c)) (fun h => PySem.W.InstAt h a ox (He.ga K c) od) := PySem.W.kitx_exc T.cl T.ga T.gg T.exC T.ha T.hn T.ht T.hm
theorem call_isE1 : CallR X (.builtin "isinstance") (rIsE1 X.K) := by
  intro pins s σ H xs us Q I r h
  obtain ⟨a, c, d, gs, ρ, t, cv, b, rfl, ea, xd, T, hc, e, q⟩ := h
  obtain ⟨u1, u2, rfl, r1, r2⟩ := vals2 r
  obtain rfl : u1 = Value.ref a := r1
  obtain rfl : u2 = cv := hc.eq r2
  obtain ⟨ox, od, J, _⟩ := err_inst I ea xd
  exact PySem.W.kia_one (kit_err T) I.kIn J e (fun z => nomatch z) fun tk => ⟨.bl b, H, I.tok tk, rfl, q⟩
theorem call_isE2 : CallR X (.builtin "isinstance") (rIsE2 X.K) := by
  intro pins s σ H xs us Q I r h
  obtain ⟨a, tp, c, d, gs, ρ, ts, ws, b, rfl, hT, ea, xd, T, hc, e, q⟩ := h
  obtain ⟨u1, u2, rfl, r1, r2⟩ := vals2 r
  obtain rfl : u1 = Value.ref a := r1
  obtain rfl : u2 = Value.ref tp := r2
  obtain ⟨ox, od, J, _⟩ := err_inst I ea xd
  have hk : ObjOk X.prog X.w H s.heap tp (.tup ts) := I.hok tp _ hT
  obtain ⟨_, its, rv, o, h1, h2, n, h3⟩ := hk
  obtain ⟨oc, od', dt, sl⟩ := o
  dsimp only at h2 h3
  subst h2 h3
  have e3 := ClsV.all hc rv
  subst e3
  exact PySem.W.kia_tup (kit_err T) I.kIn J h1 e (fun z => nomatch z) fun tk => ⟨.bl b, H, I.tok tk, rfl, q⟩
theorem se_isE (hE : ErrA X.K cs) (hk : KitOk X.K kt) (hg : Gl X "isinstance") (hm : X.mg "isinstance" = none) (he : SE X e de) (hu : SE X u du)
    (hs : starEach [e, u] X.env = (false, eval e X.env) :: starEach [u] X.env := by rfl) (hs2 : starEach [u] X.env = (false, eval u X.env) :: starEach [] X.env := by rfl)
    (hpl : (backTo pos (starEach [u] X.env)).any (·.1) = false := by rfl) : SE X (.Call (.Name "isinstance" p) [e, u] [] pos) (dIsE cs kt de du) := ⟨fun W tk =>
  impPE (pe_callB call_isE1 hg hm (by decide +kernel) (pa_cons (he.run W tk) (pa_cons (hu.run W tk) pa_nil hs2) hs) (by decide) (by decide) hs hpl) fun σ H Q ⟨ρ, env, m, z, m', s, e, p⟩ =>
    bindE s e p fun y m1 ρ1 H1 v s1 E1 r1 e1 p1 => bindE s1 e1 p1 fun t m2 ρ2 H2 w s2 E2 r2 e2 p2 => by
      split at e2
      · rename_i c fs t' ht
        split at e2
        · rename_i hc
          split at e2
          · rename_i b hb
            cases e2
            obtain ⟨a, d, gs, rfl, n1, ea, xd, rf⟩ := r1.mono E2
            exact ⟨a, c, d, gs, ρ2, w, _, b, rfl, ea, xd, hE c (List.contains_iff_mem.mp hc), clsD_ok r2 ht, hk _ _ _ hb, p2 ρ2 H2 s2.mem .refl _ rfl⟩
          · cases e2
        · cases e2
      · cases e2⟩
theorem se_isET {tk' : Nat} {tpos : Pos} (hE : ErrA X.K cs) (hk : KitOk X.K kt) (hg : Gl X "isinstance") (hm : X.mg "isinstance" = none) (he : SE X e de) (ha : SA X es da)
    (hs : starEach [e, .Tuple es tk' tpos] X.env = (false, eval e X.env) :: starEach [.Tuple es tk' tpos] X.env := by rfl) (hs2 : starEach [.Tuple es tk' tpos] X.env = (false, eval (.Tuple es tk' tpos) X.env) :: starEach [] X.env := by rfl)
    (hpl : (backTo pos (starEach [.Tuple es tk' tpos] X.env)).any (·.1) = false := by rfl) : SE X (.Call (.Name "isinstance" p) [e, .Tuple es tk' tpos] [] pos) (dIsET cs kt de da) := ⟨fun W tk =>
  impPE (pe_callB call_isE2 hg hm (by decide +kernel) (pa_cons (he.run W tk) (pa_cons (pe_tup (ha.run W tk)) pa_nil hs2) hs) (by decide) (by decide) hs hpl) fun σ H Q ⟨ρ, env, m, z, m', s, e, p⟩ =>
    bindE s e p fun y m1 ρ1 H1 v s1 E1 r1 e1 p1 => bindA s1 e1 p1 fun us m2 ρ2 H2 vs s2 E2 r2 e2 p2 => by
      split at e2
      · rename_i c fs ts hts
        split at e2
        · rename_i hc
          rw [Bool.and_eq_true, decide_eq_true_eq] at hc
          split at e2
          · rename_i b hb
            cases e2
            refine ⟨by rw [← r2.length]; exact hc.2, fun q hq => ?_⟩
            have E3 : Ext ρ2 H2 ρ2 (upd H2 q (.tup vs)) := ext_new hq
            have M3 : RM X.K ρ2 _ (upd H2 q (.tup vs)) := s2.mem.laid hq
            obtain ⟨a, d, gs, rfl, n1, ea, xd, rf⟩ := (r1.mono E2).mono E3
            exact ⟨a, q, c, d, gs, ρ2, vs, _, b, rfl, upd_same, ea, xd, hE c (List.contains_iff_mem.mp hc.1), clsDs_ok r2 hts, kitAnyD_ok hk hb, p2 ρ2 _ M3 E3 _ rfl⟩
          · cases e2
        · cases e2
      · cases e2⟩
end
end Z
namespace Z
open PySem PySem.Spec PyProof.Rows L2
variable [Kd]
/-! ### facts of own errors that the head's run checks -/
def ckErrK (cs : List Str) : Ck := fun K => cs.all fun c => (PySem.W.clsIn K (He.ga K c)).isSome && (He.eqO (PySem.W.findIn K (.ref (He.ga K c)) "__getattribute__") (some (some (.builtin "BaseException.__getattribute__"))) && (He.eqO (PySem.W.findIn K (.ref (He.ga K c)) "__getattr__") (some none) &&
  (decide (PySem.W.subIn K (.ref (He.ga K c)) (.type "BaseException") = some true) && (PySem.W.hasDictIn K (He.ga K c) && (He.eqO (PySem.W.findIn K (.ref (He.ga K c)) "__class__") (some (some (.builtin "object.__class__"))) && (He.eqO (PySem.W.specialIn K (.builtin "object.__class__") "__get__") (some (some (.builtin "getset_descriptor.__get__"))) &&
  (decide (PySem.W.takesIn K (.builtin "object.__class__") = some true) && decide (PySem.W.mroIn K (He.ga K c) (.type "object") = some true))))))))
theorem ckErrK_ok {K : PySem.W.Frag} {cs : List Str} (h : ckErrK cs K = true) : ErrA K cs := fun c hc => by
  have := List.all_eq_true.mp h c hc
  simp only [Bool.and_eq_true, decide_eq_true_eq] at this
  obtain ⟨h1, h2, h3, h4, h5, h6, h7, h8, h9⟩ := this
  exact ⟨h1, He.eqO_ok h2, He.eqO_ok h3, h4, h5, He.eqO_ok h6, He.eqO_ok h7, h8, h9⟩
def ckXfN (cs : List Str) (f : Str) : Ck := fun K => cs.all fun c => He.eqO (PySem.W.findIn K (.ref (He.ga K c)) f) (some none)
theorem ckXfN_ok {K : PySem.W.Frag} {cs : List Str} {f : Str} (h : ckXfN cs f K = true) : ∀ c ∈ cs, PySem.W.findIn K (.ref (He.ga K c)) f = some none := fun c hc => He.eqO_ok (List.all_eq_true.mp h c hc)
def exTb (tb : List (Str × Str × Bool)) : ExT := fun c k => match tb.find? fun p => decide (p.1 = c) && decide (p.2.1 = k) with
  | some p => some p.2.2
  | none => none
def ckExm (tb : List (Str × Str × Bool)) : Ck := fun K => tb.all fun p => decide (PySem.W.exmOne K (.ref (He.ga K p.1)) (.ref (He.ga K p.2.1)) = some p.2.2)
theorem ckExm_ok {K : PySem.W.Frag} {tb : List (Str × Str × Bool)} (h : ckExm tb K = true) : ExOk K (exTb tb) := fun c k b e => by
  unfold exTb at e
  split at e
  · rename_i p hp
    cases e
    have h1 := List.all_eq_true.mp h p (List.mem_of_find?_eq_some hp)
    have h2 := List.find?_some hp
    simp only [Bool.and_eq_true, decide_eq_true_eq] at h1 h2
    rw [← h2.1, ← h2.2]
    exact h1
  · cases e
def ckErrC (c f : Str) (B initId newId : String) (bmB : List Value) : Ck := fun K => (PySem.W.clsIn K (He.ga K c)).isSome && (decide (PySem.W.mroIn K (He.ga K c) (.ref (He.ga K c)) = some true) && (He.eqO (PySem.W.ks_superIn K (He.ga K c) (He.ga K c) "__init__") (some (some (.builtin initId))) &&
  (decide (PySem.W.subIn K (.ref (He.ga K c)) (.type B) = some true) && (He.eqO (PySem.W.nsIn K cStatics "thirdparty.any") (some none) && (PySem.W.excInitIn K (He.ga K c) bmB newId && (He.eqO (PySem.W.findIn K (.ref (He.ga K c)) "__setattr__") (some (some (.builtin "object.__setattr__"))) &&
  (PySem.W.excOver K (He.ga K c) bmB && (He.eqO (PySem.W.takerIn K (He.ga K c) f) (some none) && (PySem.W.hasDictIn K (He.ga K c) && (He.eqO (PySem.W.findIn K (.ref (He.ga K c)) "__init__") (some (some (.ref (He.ma K (He.ga K c) "__init__")))) &&
  (PySem.W.isFn K (.ref (He.ma K (He.ga K c) "__init__")) && (decide (PySem.W.subIn K (.ref (He.ga K c)) (.type "BaseException") = some true) && (PySem.W.isFn K (.ref (He.ma K (He.ga K c) "__init__")) && (PySem.W.typeIn K (.ref (He.ga K c)) == some (.type "type") && PySem.W.keepIn K (.ref (He.ga K c))))))))))))))))
theorem errI_of {P : Program} {K : PySem.W.Frag} {c f : Str} {e : EZ} {B initId newId : String} {bmB : List Value} {ar arp : Arg} {txt : Str} {p0 p1 p2 p3 p4 p5 q0 q1 q2 q3 : Pos} {ck : Nat} {pl : Env → Sem Bool} (base : BaseF B initId newId bmB) (hE : fnE K (e.adr K) = e.val ∧ e.ok K = true) (hC : ckErrC c f B initId newId bmB K = true)
    (ha : e.adr K = He.ma K (He.ga K c) "__init__") (hc : e.cls K = He.ga K c) (hp : e.params = ⟨[], [ar, arp], none, [], [], none, []⟩) (hb : e.body = [.Expr (.Call (.Attribute (.Call (.Name "super" p0) [] [] p1) "__init__" p2) [.Constant (.str txt) ck p3] [] p4) p5, .Assign [.Attribute (.Name ar.arg q0) f q1] (.Name arp.arg q2) q3])
    (lfile : (P.main.file == e.file) = true) (ltop : (P.main.scope.names.lookup ("super" : Str)).isSome = false) (sup : e.scope.names.lookup ("super" : Str) = some .globalImplicit) (scl : e.scope.names.lookup ("__class__" : Str) = some .free) (sar : e.scope.names.lookup ar.arg = some .local) (sap : e.scope.names.lookup arp.arg = some .local)
    (kind : e.scope.kind = .function) (co : e.scope.isCoroutine = false) (gen : e.scope.isGenerator = false) (nocell : ∀ x ∈ e.scope.names, x.2 ≠ .cell)
    (bind : ∀ (kV doc pm ct : Value) (an : Option Addr) (cda cc : Addr) (a b : Value), bindArgs (PySem.W.ksFn "__init__" e.qual e.params e.body e.scope .none kV doc pm an (.ref cda) ct cc) ⟨[a, b], []⟩ = pure [(ar.arg, a), (arp.arg, b)])
    (hev : ∀ env : Env, eval (.Call (.Attribute (.Call (.Name "super" p0) [] [] p1) "__init__" p2) [.Constant (.str txt) ck p3] [] p4) env = (do
      let ov ← attributeBase (.Call (.Name "super" p0) [] [] p1) "__init__" env (eval (.Call (.Name "super" p0) [] [] p1) env)
      standAt p2.atName
      let (f, first) ← holding [ov] (getMethod ov "__init__" (pl env))
      callWith p4 f first (backTo p4 (starEach [.Constant (.str txt) ck p3] env)) []))
    (dist : ar.arg ≠ arp.arg) (nodb : (ar.arg == ("__debug__" : Str)) = false) (nodp : (arp.arg == ("__debug__" : Str)) = false) : Nonempty (ErrI P K (He.ga K c) f) := by
  obtain ⟨cc, cda, kV, doc, pm, ct, an, oc, od, osl, vs, tf, ccl, cdd, ccs, cl, cld, csl, f1, f2, f3, f4, f5⟩ := EZ.facts hE.1 hE.2
  unfold ckErrC at hC
  simp only [Bool.and_eq_true, decide_eq_true_eq] at hC
  obtain ⟨g1, g2, g3, g4, g5, g6, g7, g8, g9, g10, g11, g12, g13, g14, g15, g16⟩ := hC
  obtain ⟨cd, hcd⟩ := Option.isSome_iff_exists.mp g1
  rw [hc] at f5
  rw [ha] at f1
  obtain ⟨adr, cls, qual, params, body, scope, file⟩ := e
  dsimp only at *
  subst hp hb
  exact ⟨{ B := B, initId := initId, newId := newId, bmB := bmB, base := base, fI := _, cc := cc, cda := cda, qual := qual, ar := ar, arp := arp, scope := scope, txt := txt, p0 := p0, p1 := p1, p2 := p2, p3 := p3, p4 := p4, p5 := p5, q0 := q0, q1 := q1, q2 := q2, q3 := q3, ck := ck, kV := kV, doc := doc, pm := pm, ct := ct, an := an, oc := oc, od := od, osl := osl, lk := f1, code := f2, cvs := vs, file := file, tf := tf, ccl := ccl, cdd := cdd, ccs := ccs, lcd := f3, lvs := f4, lfile := lfile, ltop := ltop, cl := cl, cld := cld, csl := csl, lcell := f5, cdC := cd, lC := hcd, sup := sup, scl := scl, sar := sar, sap := sap, kind := kind, co := co, gen := gen, nocell := nocell, bind := fun a b => bind _ _ _ _ _ _ _ a b, pl := pl, hev := hev, dist := dist, nodb := nodb, nodp := nodp, mroC := g2, above := He.eqO_ok g3, sub := g4, opq := He.eqO_ok g5, xin := g6, sat := He.eqO_ok g7, over := g8, tak := He.eqO_ok g9, hdC := g10, ini := He.eqO_ok g11, tyI := beq_iff_eq.mp g12, exC := g13, tyC := beq_iff_eq.mp g15, kC := g16 }⟩
end Z
namespace Z
variable [Kd]
open PySem PySem.Spec PyProof.Rows L2
structure ProgF (P : Program) (file : Str) : Prop where
  file : (P.main.file == file) = true
  top : (P.main.scope.names.lookup ("super" : Str)).isSome = false
section
variable {X : Cx} {e : Expr} {d : DA} {c f : Str} {p pos : Pos} {k : Nat}
theorem sm_errN (Er : Nonempty (ErrI X.prog X.K (He.ga X.K c) f)) (hsup : X.mg "super" = none) (hr : Room (k + 1) X.A) (hm : X.mg c = some (.ref (He.ga X.K c))) (hg : Gl X c) (ha : SA X [e] d) (hdb : (c == ("__debug__" : Str)) = false := by decide)
    (he : starEach (e :: []) X.env = (false, eval e X.env) :: starEach [] X.env := by rfl) : SMk X (.Call (.Name c p) [e] [] pos) (dMk c f d) := Er.elim fun E => sm_err E hsup hr hm hg ha hdb he
theorem se_errN (Er : Nonempty (ErrI X.prog X.K (He.ga X.K c) f)) (hex : X.ex = []) (hsup : X.mg "super" = none) (hr : Room (k + 1) X.A) (hm : X.mg c = some (.ref (He.ga X.K c))) (hg : Gl X c) (ha : SA X [e] d) (hdb : (c == ("__debug__" : Str)) = false := by decide)
    (he : starEach (e :: []) X.env = (false, eval e X.env) :: starEach [] X.env := by rfl) : SE X (.Call (.Name c p) [e] [] pos) (dErrV c f d) := Er.elim fun E => se_errV E hex hsup hr hm hg ha hdb he
end
end Z
namespace Z
open PySem PySem.Spec PyProof.Rows L2
variable [Kd]
/-! ### methods of texts -/
/-- a list of texts -/
def strsL : List Vl → Option (List Str)
  | [] => some []
  | .str b :: xs => (match strsL xs with
    | some bs => some (b :: bs)
    | none => none)
  | _ :: _ => none
theorem strsL_ok {K : PySem.W.Frag} {ρ : Lay} {H : Hp} : ∀ {xs : List Vl} {vs : List V} {bs : List Str}, RVs K ρ H xs vs → strsL xs = some bs → vs = bs.map V.str
  | [], _, _, h, e => by
    cases e
    exact h
  | x :: xs, _, _, ⟨v, r, h1, h2, h3⟩, e => by
    cases x with
    | str b =>
      unfold strsL at e
      split at e
      · rename_i bs hb
        cases e
        rw [h1, strsL_ok h3 hb, show v = V.str b from h2] <;> rfl
      · cases e
    | _ => cases e
theorem rvs_strs {K : PySem.W.Frag} {ρ : Lay} {H : Hp} : ∀ ys : List Str, RVs K ρ H (ys.map Vl.str) (ys.map V.str)
  | [] => rfl
  | y :: ys => ⟨V.str y, _, rfl, rfl, rvs_strs ys⟩
def joinF : FM := fun x xs m => match x, xs with
  | .str a, [y] => (match seqD m y with
    | some ys => (match strsL ys with
      | some bs => if (bs.map (·.length)).sum + bs.length * a.length ≤ 16777216 then some (.str (Txt.join a bs), m) else none
      | none => none)
    | none => none)
  | _, _ => none
section
variable {X : Cx} {pos apos : Pos} {e o : Expr} {d : DA} {de : DE}
theorem smf_join {K : PySem.W.Frag} : SMF K joinF "str" (fun x xs H Q => ∃ a p, ∃ ys : List Str, x = .str a ∧ xs = [.ref p] ∧ (SqL K H p (ys.map V.str) ∨ SqT K H p (ys.map V.str)) ∧
    (ys.map (·.length)).sum + ys.length * a.length ≤ 16777216 ∧ Q (.str (Txt.join a ys)) H) := fun ρ m H x xs v vs z m' Q M a b e k => by
  unfold joinF at e
  split at e
  · rename_i t y
    split at e
    · rename_i ys hy
      split at e
      · rename_i bs hb
        split at e
        · rename_i hz
          cases e
          obtain ⟨w, s, rfl, h1, h2⟩ := b
          subst h2
          obtain ⟨q, ws, rfl, h3, h4⟩ := seqD_ok M h1 hy
          rw [strsL_ok h4 hb] at h3
          exact ⟨t, q, bs, by rw [show v = V.str t from a], rfl, h3, hz, k ρ H _ M .refl rfl⟩
        · cases e
      · cases e
    · cases e
  · cases e
theorem se_join (ho : SE X o de) (ha : SA X [e] d)
    (hbase : attributeBase o "join" X.env (eval o X.env) = eval o X.env := by rfl)
    (hfew : ((backTo pos (starEach [e] X.env)).all (fun x => !x.1) && (backToKw pos (keywordEach [] X.env)).all (fun x => x.1.isSome)
      && decide ([e].length + ([] : List Keyword).length + (if ([] : List Keyword).isEmpty then 0 else 1) < 30)) = true := by rfl)
    (hline : (apos.endLine == pos.line) = true := by rfl) (hs : starEach [e] X.env = (false, eval e X.env) :: starEach [] X.env := by rfl) (hplain : (backTo pos (starEach [] X.env)).any (·.1) = false := by rfl) :
    SE X (.Call (.Attribute o "join" apos) [e] [] pos) (dM "str" joinF de d) := se_bm PySem.F.plainAttrs_str PySem.F.slot_str_join PySem.F.type_str_join mt_join smf_join ho ha hbase hfew hline hs hplain
/-- of a text alone -/
def txtF (c : Str → Bool) (g : Str → Vl) : FM := fun x xs m => match x, xs with
  | .str a, [] => if c a = true then some (g a, m) else none
  | _, _ => none
theorem smf_txt {K : PySem.W.Frag} {c : Str → Bool} {C : Str → Prop} {g : Str → Vl} {h : Str → V} (hc : ∀ a, c a = true → C a) (hg : ∀ a ρ H, RV K ρ H (g a) (h a)) : SMF K (txtF c g) "str" (fun x xs H Q => ∃ a, x = .str a ∧ xs = [] ∧ C a ∧ Q (h a) H) := fun ρ m H x xs v vs z m' Q M a b e k => by
  unfold txtF at e
  split at e
  · rename_i t
    split at e
    · rename_i q
      cases e
      exact ⟨t, by rw [show v = V.str t from a], b, hc t q, k ρ H _ M .refl (hg t ρ H)⟩
    · cases e
  · cases e
def upperF : FM := txtF (fun a => decide (a.length ≤ 5592405)) (fun a => .str (Txt.upper a))
theorem se_upper (ho : SE X o de) (hbase : attributeBase o "upper" X.env (eval o X.env) = eval o X.env := by rfl) (hline : (apos.endLine == pos.line) = true := by rfl) :
    SE X (.Call (.Attribute o "upper" apos) [] [] pos) (dM "str" upperF de dNone) := se_bm0 PySem.F.plainAttrs_str PySem.F.slot_str_upper PySem.F.type_str_upper mt_upper (smf_txt (fun _ h => of_decide_eq_true h) fun _ _ _ => rfl) ho hbase hline
def lstripF : FM := txtF (fun a => decide (a.length ≤ sizeLine)) (fun a => .str (Txt.lstrip a))
theorem se_lstrip (ho : SE X o de) (hbase : attributeBase o "lstrip" X.env (eval o X.env) = eval o X.env := by rfl) (hline : (apos.endLine == pos.line) = true := by rfl) :
    SE X (.Call (.Attribute o "lstrip" apos) [] [] pos) (dM "str" lstripF de dNone) := se_bm0 PySem.F.plainAttrs_str PySem.F.slot_str_lstrip PySem.F.type_str_lstrip mt_lstrip (smf_txt (fun _ h => of_decide_eq_true h) fun _ _ _ => rfl) ho hbase hline
/-- x.insert(i, y) -/
def insH (ys xs : List Vl) : Option (Vl × List Vl) := match xs with
  | [.int i, y] => if (decide (ys.length < sizeLine) && (decide (0 ≤ i) && decide (i < 2 ^ 63))) = true then some (.non, ys.take i.toNat ++ [y] ++ ys.drop i.toNat) else none
  | _ => none
theorem smf_ins {K : PySem.W.Frag} : SMF K (lstM insH) "list" (fun x vs H Q => ∃ (l : Addr) (xs : List V) (i : Int) (y : V), x = .ref l ∧ vs = [.int i, y] ∧ H l = some (.lst xs) ∧ xs.length < sizeLine ∧ 0 ≤ i ∧ i < 2 ^ 63 ∧
    Q .non (upd H l (.lst (xs.take i.toNat ++ [y] ++ xs.drop i.toNat)))) := smf_lst fun ρ H a ys xs zs us vs z Q h1 h2 b e k => by
  unfold insH at e
  split at e
  · rename_i i y
    split at e
    · rename_i c
      cases e
      rw [Bool.and_eq_true, Bool.and_eq_true, decide_eq_true_eq, decide_eq_true_eq, decide_eq_true_eq] at c
      obtain ⟨v, s, rfl, r1, w, s2, rfl, r2, r3⟩ := b
      subst r3
      exact ⟨a, us, i, w, rfl, by rw [show v = V.int i from r1], h1, by rw [← h2.length]; exact c.1, c.2.1, c.2.2, k _ _ rfl (((h2.take i.toNat).append (show RVs K ρ H [y] [w] from ⟨w, [], rfl, r2, rfl⟩)).append (h2.drop i.toNat))⟩
    · cases e
  · cases e
theorem se_insert {e2 : Expr} (ho : SE X o de) (ha : SA X [e, e2] d)
    (hbase : attributeBase o "insert" X.env (eval o X.env) = eval o X.env := by rfl)
    (hfew : ((backTo pos (starEach [e, e2] X.env)).all (fun x => !x.1) && (backToKw pos (keywordEach [] X.env)).all (fun x => x.1.isSome)
      && decide ([e, e2].length + ([] : List Keyword).length + (if ([] : List Keyword).isEmpty then 0 else 1) < 30)) = true := by rfl)
    (hline : (apos.endLine == pos.line) = true := by rfl) (hs : starEach [e, e2] X.env = (false, eval e X.env) :: starEach [e2] X.env := by rfl) (hplain : (backTo pos (starEach [e2] X.env)).any (·.1) = false := by rfl) :
    SE X (.Call (.Attribute o "insert" apos) [e, e2] [] pos) (dM "list" (lstM insH) de d) := se_bm PySem.F.plainAttrs_list PySem.F.slot_list_insert PySem.F.type_list_insert mt_insert smf_ins ho ha hbase hfew hline hs hplain
/-! x.split(sep): a new list -/
def splitH (x : Vl) (xs : List Vl) : Option (List Vl) := match x, xs with
  | .str a, [.str b] => if (!(b.length == 0) && decide (a.length + 2 ≤ sizeLine)) = true then some ((Txt.split a b).map Vl.str) else none
  | _, _ => none
def dSplit (de : DE) (d : DA) : DA := fun env m => bindR (de env m) fun x m => if tyM "str" m x = true then bindR (d env m) fun xs m => (match splitH x xs with
  | some ys => some (.ok ys, m)
  | none => none) else none
theorem sl_split (ho : SE X o de) (ha : SA X [e] d)
    (hbase : attributeBase o "split" X.env (eval o X.env) = eval o X.env := by rfl)
    (hfew : ((backTo pos (starEach [e] X.env)).all (fun x => !x.1) && (backToKw pos (keywordEach [] X.env)).all (fun x => x.1.isSome)
      && decide ([e].length + ([] : List Keyword).length + (if ([] : List Keyword).isEmpty then 0 else 1) < 30)) = true := by rfl)
    (hline : (apos.endLine == pos.line) = true := by rfl) (hs : starEach [e] X.env = (false, eval e X.env) :: starEach [] X.env := by rfl) (hplain : (backTo pos (starEach [] X.env)).any (·.1) = false := by rfl) :
    SL X (.Call (.Attribute o "split" apos) [e] [] pos) (dSplit de d) := ⟨fun W tk =>
  impPE (pe_bm PySem.F.plainAttrs_str PySem.F.slot_str_split PySem.F.type_str_split mt_split (ho.run W tk) (ha.run W tk) hbase hfew hline hs hplain) fun σ H Q ⟨ρ, env, m, z, m', s, e, p⟩ => by
    unfold dSplit bindR at e
    split at e
    · cases e
    · rename_i x m1 h0
      refine goE s h0 fun ρ1 H1 v s1 E1 r1 => ?_
      dsimp only at e
      split at e
      · rename_i ht
        refine ⟨tyM_ok s1.mem r1 ht, ?_⟩
        split at e
        · cases e
        · rename_i xs m2 h2
          refine goA s1 h2 fun ρ2 H2 vs s2 E2 r2 => ?_
          split at e
          · rename_i ys hy
            cases e
            unfold splitH at hy
            split at hy
            · rename_i a b
              split at hy
              · rename_i c
                cases hy
                rw [Bool.and_eq_true, decide_eq_true_eq] at c
                obtain ⟨w, t, rfl, q1, q2⟩ := r2
                subst q2
                have hl : (Txt.split a b).length ≤ sizeLine := Nat.le_trans (PyProof.Rows.split_le a b) c.2
                exact ⟨a, b, by rw [show v = V.str a from r1], by rw [show w = V.str b from q1], by simpa using c.1, c.2, fun l hl' => p ρ2 _ (s2.mem.laid hl') ((E1.trans E2).trans (ext_new hl')) _ ⟨l, _, rfl, ⟨s2.mem.fresh hl', s2.mem.freshz hl', (E1.trans E2).none hl'⟩, upd_same, by rw [List.length_map]; exact hl, rvs_strs _⟩⟩
              · cases hy
            · cases hy
          · cases e
        · rename_i c fs m2 h2
          cases e
          exact exA s1 h2 fun ρ' H' dd s' E r => p ρ' H' s'.mem (E1.trans E) dd r
      · cases e
    · rename_i c fs m1 h0
      cases e
      exact exE s h0 fun ρ' H' dd s' E r => p ρ' H' s'.mem E dd r⟩
end
end Z
namespace Z
open PySem PySem.Spec PyProof.Rows L2
variable [Kd]
/-! ### classmethods, and a class in a local name -/
/-- the def of a classmethod -/
def cmA (K : PySem.W.Frag) (c m : Str) : Addr := match PySem.W.recIn K (He.ma K (He.ga K c) m) "classmethod" with
  | some (.ref g :: _) => g
  | _ => 0
structure CMd (K : PySem.W.Frag) (c m : Str) : Prop where
  rd : ClX.CRead K (He.ga K c) (.type "type")
  cm : ClX.CMet K (He.ga K c) (.type "type") m (He.ma K (He.ga K c) m) (cmA K c m)
def isCmF (r : Option PySem.W.CFound) (p C : Addr) : Bool := match r with
  | some (.get (.builtin b) (.ref p') .none (.ref C')) => decide (b = "classmethod.__get__") && (decide (p' = p) && decide (C' = C))
  | _ => false
theorem isCmF_ok {r : Option PySem.W.CFound} {p C : Addr} (h : isCmF r p C = true) : r = some (.get (.builtin "classmethod.__get__") (.ref p) .none (.ref C)) := by
  unfold isCmF at h
  split at h
  · simp only [Bool.and_eq_true, decide_eq_true_eq] at h
    rw [h.1, h.2.1, h.2.2]
  · cases h
def ckCM (c m : Str) : Ck := fun K => PySem.W.readsIn K (He.ga K c) (.type "type") && (He.eqO (PySem.W.specialIn K (.ref (He.ga K c)) "__getattribute__") (some (some (.builtin "type.__getattribute__"))) &&
  (isCmF (PySem.W.findCls K (.ref (He.ga K c)) (.type "type") m) (He.ma K (He.ga K c) m) (He.ga K c) && ((match PySem.W.recIn K (He.ma K (He.ga K c) m) "classmethod" with
    | some (.ref _ :: _) => true
    | _ => false) && PySem.W.fnIn K (cmA K c m))))
theorem ckCM_ok {K : PySem.W.Frag} {c m : Str} (h : ckCM c m K = true) : CMd K c m := by
  unfold ckCM at h
  simp only [Bool.and_eq_true] at h
  obtain ⟨h1, h2, h3, h4, h5⟩ := h
  refine ⟨⟨h1, He.eqO_ok h2⟩, isCmF_ok h3, ?_, h5⟩
  split at h4
  · rename_i g rest q
    refine ⟨rest, ?_⟩
    unfold cmA
    rw [q]
  · cases h4
section
variable {X : Cx} {o e : Expr} {es : List Expr} {c mn : Str} {pos apos p : Pos} {de : DE} {d : DA} {k n : Nat} {f : Addr} {ks : List Str} {gz : List Vl → List Vl → List Vl} {g : FD} {W : WX}
theorem Fz.code (F : Fz X.prog X.w X.K X.mg X.base k f n ks gz g) (hr : Room k X.A) (tk : Takes X W) {pins : List (Addr × Obj)} {σ : L2.St} {H : Hp} {s : Shared} {Q : VK} {us ws : List Value} {vs zs : List V} {ρ : Lay} {m m' : Mem} {xs ys : List Vl} {r : R Vl}
    (I : Inv X pins σ H s) (a : Vals vs us) (b : Vals zs ws) (M : RM X.K ρ m H) (ra : RVs X.K ρ H xs vs) (rb : RVs X.K ρ H ys zs) (hn : xs.length = n) (hk : ys.length = ks.length) (e : g (gz xs ys) m = some (r, m'))
    (p : Po X.K ρ H (RV X.K) (fun c dd H' => W c dd σ H') Q r m') : codeAny (model X.prog X.w) X.A (.call (.ref f) ⟨us, ks.zip ws⟩) (fun r s' => match r with | .ok (.ret v) => EP X pins σ Q v s' | .ok _ => False | .error e => X.xe e s') s := by
  obtain ⟨fd, ps, gs, gV, h1, h2, h3⟩ := F.ex
  have q := h3 ρ H xs vs ys zs hn hk ra rb
  have kb := h2.to s us ws I.kIn (by rw [← a.length, ← ra.length]; exact hn) (by rw [← b.length, ← rb.length]; exact hk)
  refine codeAny_mono (h1.run X.A X.stack s H ⟨us, ks.zip ws⟩ (gs us ws) (gV vs zs) Q (fun c dd H' => W c dd σ H') hr I.env0 kb (h2.rel a b) ⟨q.1, ρ, m, _, r, m', M, q.2, e, p⟩) fun r s' hq => ?_
  rcases r with er | fl
  · exact tk.call I (fun _ _ _ h => h) hq
  · cases fl <;> first | exact I.after hq | exact hq.elim
def dCMeth (c : Str) (n : Nat) (gz : List Vl → List Vl → List Vl) (g : FD) (de : DE) (d : DA) : DE := fun env m => bindR (de env m) fun x m => match x with
  | .glo c' => if c' = c then bindR (d env m) fun xs m => if xs.length = n then g (gz (.glo c :: xs) []) m else none else none
  | _ => none
theorem se_cmeth {pl : Sem Bool} (he : SE X o de) (h : CMd X.K c mn) (F : Fz X.prog X.w X.K X.mg X.base k (cmA X.K c mn) (n + 1) [] gz g) (hr : Room k X.A) (ha : SA X (e :: es) d)
    (hst : starEach (e :: es) X.env = (false, eval e X.env) :: starEach es X.env := by rfl) (hpl : (backTo pos (starEach es X.env)).any (·.1) = false := by rfl)
    (ht : eval (.Call (.Attribute o mn apos) (e :: es) [] pos) X.env = (do
      let ov ← eval o X.env
      standAt apos.atName
      let (f, first) ← holding [ov] (getMethod ov mn pl)
      callWith pos f first (backTo pos (starEach (e :: es) X.env)) (backToKw pos (keywordEach [] X.env))) := by rfl) :
    SE X (.Call (.Attribute o mn apos) (e :: es) [] pos) (dCMeth c n gz g de d) := ⟨fun W tk => ⟨fun pins s σ H Q I h0 => by
  obtain ⟨ρ, env, m, z, m', st, ee, pp⟩ := h0
  have h' : rdE X.K W de σ H (fun v H1 => v = .ref (He.ga X.K c) ∧ rdA X.K W d σ H1 fun vs H2 => ∃ ρ1 m1 xs, RM X.K ρ1 m1 H2 ∧ RVs X.K ρ1 H2 xs (.ref (He.ga X.K c) :: vs) ∧ xs.length = n + 1 ∧ g (gz xs []) m1 = some (z, m') ∧ Po X.K ρ1 H2 (RV X.K) (fun c dd H' => W c dd σ H') Q z m') :=
    bindE st ee pp fun x m1 ρ1 H1 v s1 E1 r1 e1 p1 => by
      split at e1
      · rename_i c'
        split at e1
        · rename_i hc
          subst hc
          refine ⟨r1, bindA s1 e1 p1 fun xs m2 ρ2 H2 vs s2 E2 r2 e2 p2 => ?_⟩
          split at e2
          · rename_i hn
            exact ⟨ρ2, m2, .glo c' :: xs, s2.mem, ⟨_, _, rfl, rfl, r2⟩, by rw [List.length_cons, hn], e2, p2⟩
          · cases e2
        · cases e1
      · cases e1
  refine PySem.W.methodCall_KW (pl := pl) (thn ((he.run W tk).run pins s σ H _ I h') fun u s1 ⟨x, H1, I1, rx, ex, q⟩ => ?_) ht
  subst ex
  obtain rfl : u = Value.ref (He.ga X.K c) := rx
  refine ClX.getmethcm_ok I1 h.rd h.cm fun s2 I2 => ?_
  refine ClX.callwith_cm I2 (ClX.base_none I1 (Nat.le_refl _)) h.cm.fi (thn ((ha.run W tk).run pos _ s2 σ H1 _ I2 q) fun us s3 ⟨vs, H2, I3, rv, ρ1, m1, xs, M1, rx, hn, e1, p1⟩ => ⟨⟨ClX.pin_at I3, I3.kIn⟩, ?_⟩) hst hpl
  refine thn (wpAny_call (PySem.W.method_call (kw := []) (ClX.pin_at I3) (F.code hr tk (us := .ref (He.ga X.K c) :: us) (vs := .ref (He.ga X.K c) :: vs) (ws := []) I3 (.cons rfl rv) .nil M1 rx (show RVs X.K ρ1 H2 [] [] from rfl) hn rfl e1 p1))) fun _ _ y => ClX.unpinE y⟩⟩
theorem se_cmeth0 {pl : Sem Bool} (he : SE X o de) (h : CMd X.K c mn) (F : Fz X.prog X.w X.K X.mg X.base k (cmA X.K c mn) 1 [] gz g) (hr : Room k X.A)
    (ht : eval (.Call (.Attribute o mn apos) [] [] pos) X.env = (do
      let ov ← eval o X.env
      standAt apos.atName
      let (f, first) ← holding [ov] (getMethod ov mn pl)
      callWith pos f first (backTo pos (starEach [] X.env)) (backToKw pos (keywordEach [] X.env))) := by rfl) :
    SE X (.Call (.Attribute o mn apos) [] [] pos) (dCMeth c 0 gz g de dNone) := ⟨fun W tk => ⟨fun pins s σ H Q I h0 => by
  obtain ⟨ρ, env, m, z, m', st, ee, pp⟩ := h0
  have h' : rdE X.K W de σ H (fun v H1 => v = .ref (He.ga X.K c) ∧ ∃ ρ1 m1 xs, RM X.K ρ1 m1 H1 ∧ RVs X.K ρ1 H1 xs [.ref (He.ga X.K c)] ∧ xs.length = 1 ∧ g (gz xs []) m1 = some (z, m') ∧ Po X.K ρ1 H1 (RV X.K) (fun c dd H' => W c dd σ H') Q z m') :=
    bindE st ee pp fun x m1 ρ1 H1 v s1 E1 r1 e1 p1 => by
      split at e1
      · rename_i c'
        split at e1
        · rename_i hc
          subst hc
          unfold dNone bindR at e1
          simp only [List.length_nil, if_true] at e1
          exact ⟨r1, ρ1, m1, [.glo c'], s1.mem, ⟨_, _, rfl, rfl, rfl⟩, rfl, e1, p1⟩
        · cases e1
      · cases e1
  refine PySem.W.methodCall_KW (pl := pl) (thn ((he.run W tk).run pins s σ H _ I h') fun u s1 ⟨x, H1, I1, rx, ex, ρ1, m1, xs, M1, rx1, hn, e1, p1⟩ => ?_) ht
  subst ex
  obtain rfl : u = Value.ref (He.ga X.K c) := rx
  refine ClX.getmethcm_ok I1 h.rd h.cm fun s2 I2 => ?_
  refine PySem.W.callWith_M0 (K := X.K) ⟨ClX.pin_at I2, I2.kIn⟩ h.cm.fi ?_
  refine thn (wpAny_call (PySem.W.method_call (kw := []) (ClX.pin_at I2) (F.code hr tk (us := [.ref (He.ga X.K c)]) (vs := [.ref (He.ga X.K c)]) (ws := []) I2 (.cons rfl .nil) .nil M1 rx1 (show RVs X.K ρ1 H1 [] [] from rfl) hn rfl e1 p1))) fun _ _ y => ClX.unpinE y⟩⟩
/-- cls(..), cls a local name that holds the class c -/
def dCallL (i : Nat) (c : Str) (n : Nat) (gd : List Vl → List Vl → Mem → Option (R Vl × Mem)) (d : DA) : DE := fun env m => match env[i]? with
  | some (some (.glo c')) => if c' = c then dCall n 0 gd d dNone env m else none
  | _ => none
theorem se_callL {i : Nat} {x : Str} {gd : List Vl → List Vl → Mem → Option (R Vl × Mem)} (R : Z.Runs X (He.ga X.K c) n [] gd) (hk : PySem.W.keepIn X.K (.ref (He.ga X.K c)) = true) (hN : X.N[i]? = some x) (hv : Vis X.env.scope x) (ha : SA X (e :: es) d)
    (hdb : (x == ("__debug__" : Str)) = false := by decide) (hcd : (x == ("__classdict__" : Str)) = false := by decide)
    (he : starEach (e :: es) X.env = (false, eval e X.env) :: starEach es X.env := by rfl) (hpl : (backTo pos (starEach es X.env)).any (·.1) = false := by rfl) : SE X (.Call (.Name x p) (e :: es) [] pos) (dCallL i c n gd d) := ⟨fun W tk => ⟨fun pins s σ H Q I h => by
  obtain ⟨ρ, env, m, z, m', st, ee, pp⟩ := h
  unfold dCallL at ee
  split at ee
  · rename_i c' hv'
    split at ee
    · rename_i hc
      subst hc
      obtain ⟨u0, hs, hr0⟩ := st.env.2 _ _ hv'
      obtain rfl : u0 = V.ref (He.ga X.K c') := hr0
      have h' : rdA X.K W d σ H (fun vs H1 => ∃ ρ1 m1 xs, RM X.K ρ1 m1 H1 ∧ RVs X.K ρ1 H1 xs vs ∧ xs.length = n ∧ gd xs [] m1 = some (z, m') ∧ Po X.K ρ1 H1 (RV X.K) (fun c dd H' => W c dd σ H') Q z m') :=
        bindA st ee pp fun xs m1 ρ1 H1 vs s1 E1 r1 e1 p1 => by
          unfold dNone bindR at e1
          simp only at e1
          split at e1
          · rename_i hn
            exact ⟨ρ1, m1, xs, s1.mem, r1, hn.1, e1, p1⟩
          · cases e1
      refine wpAny_Call_Name_kw (thn ((pe_var (pos := p) hN hv hdb hcd).run pins s σ H (fun v H1 => v = .ref (He.ga X.K c') ∧ H1 = H) I ⟨_, hs, rfl, rfl⟩) fun u s1 ⟨v, H1, I1, r1, q1⟩ => ?_)
      obtain ⟨rfl, rfl⟩ := q1
      obtain rfl : u = Value.ref (He.ga X.K c') := r1
      refine PySem.W.callWith_K (h₀ := X.base) I.ok.mod.kin hk (thn ((ha.run W tk).run pos pins s1 σ _ _ I1 h') fun us s2 ⟨vs, H2, I2, r, q⟩ => ⟨I2.kIn, ?_⟩) he hpl
      obtain ⟨ρ1, m1, xs, M1, rx, hn, e1, p1⟩ := q
      exact R tk (ws := []) I2 r .nil M1 rx (show RVs X.K ρ1 H2 [] [] from rfl) hn rfl e1 p1
    · cases ee
  · cases ee⟩⟩
end
end Z
namespace Z
open PySem PySem.Spec PyProof.Rows L2
variable [Kd]
/-! ### what the readings of texts, of try and of errors compute -/
section
variable {env : Ev} {m m' : Mem} {c f : Str} {fs : List (Str × Vl)} {da db de du : DE} {d : DA} {i : Nat} {x v : Vl} {ex : ExT} {hs : List Hz} {ds : DS} {cs : List Str} {kt : Kit}
@[simp] theorem dM_ap {T : String} {g : FM} : dM T g de d env m = bindR (de env m) fun x m => if tyM T m x = true then bindR (d env m) fun xs m => okR (g x xs m) else none := rfl
@[simp] theorem tyM_str {z : Str} : tyM "str" m (.str z) = true := by
  show decide ("str" = "str") = true
  decide
@[simp] theorem tyM_lst {xs : List Vl} : tyM "list" m (.lst xs) = true := by
  show decide ("list" = "list") = true
  decide
theorem tyM_obj {xs : List Vl} (h : m[i]? = some (.lst xs)) : tyM "list" m (.obj i) = true := by
  unfold tyM
  simp only [h]
  decide
@[simp] theorem dSplit_ap : dSplit de d env m = bindR (de env m) fun x m => if tyM "str" m x = true then bindR (d env m) fun xs m => (match splitH x xs with
  | some ys => some (.ok ys, m)
  | none => none) else none := rfl
theorem splitH_str {a b : Str} (h : (b.length == 0) = false) (h2 : a.length + 2 ≤ sizeLine) : splitH (.str a) [.str b] = some ((Txt.split a b).map Vl.str) := by
  unfold splitH
  simp only [h, h2, decide_true, Bool.not_false, Bool.and_self, if_true]
@[simp] theorem strsL_map : ∀ l : List Str, strsL (l.map Vl.str) = some l
  | [] => rfl
  | x :: l => by
    show (match strsL (l.map Vl.str) with
      | some bs => some (x :: bs)
      | none => none) = _
    rw [strsL_map l]
theorem joinF_strs {a : Str} {l : List Str} {y : Vl} (hy : seqD m y = some (l.map Vl.str)) (h : (l.map (·.length)).sum + l.length * a.length ≤ 16777216) : joinF (.str a) [y] m = some (.str (Txt.join a l), m) := by
  unfold joinF
  simp only [hy, strsL_map, h, if_true]
/-! membership -/
@[simp] theorem flatLs_strs : ∀ l : List Str, flatLs (l.map Vl.str) = some (l.map V.str)
  | [] => rfl
  | x :: l => by
    show (match flatLs (l.map Vl.str) with
      | some vs => some (V.str x :: vs)
      | none => none) = _
    rw [flatLs_strs l]
    rfl
theorem inV_strs {a : Str} : ∀ l : List Str, inV (.str a) (l.map V.str) = l.contains a
  | [] => rfl
  | x :: l => by
    have ih := inV_strs (a := a) l
    unfold inV at ih ⊢
    rw [List.map_cons, List.any_cons, ih, List.contains_cons]
    have : eqV (.str x) (.str a) = (a == x) := by
      show decide (x = a) = (a == x)
      by_cases h : x = a
      · subst h
        simp
      · have h' : (a == x) = false := by
          rw [Bool.eq_false_iff]
          exact fun e => h (eq_of_beq e).symm
        rw [h', decide_eq_false h]
    rw [this]
theorem inA_strs {neg : Bool} {a : Str} {l : List Str} : inA neg (.str a) (.tup (l.map .str)) m = some (.bl (if neg then !l.contains a else l.contains a), m) := by
  unfold inA orF inS seqD
  simp only [flatLs_strs, inV_strs, flatL]
/-! try, raise -/
def tryK (ex : ExT) (hs : List Hz) : Option (Fl × Mem) → Option (Fl × Mem)
  | some (.ex c fs env1, m1) => hdZ ex hs c fs env1 m1
  | r => r
@[simp] theorem dTry_ap : dTry ex ds hs env m = tryK ex hs (ds env m) := rfl
@[simp] theorem tryK_ex : tryK ex hs (some (.ex c fs env, m)) = hdZ ex hs c fs env m := rfl
@[simp] theorem tryK_nx : tryK ex hs (some (.nx env, m)) = some (.nx env, m) := rfl
@[simp] theorem tryK_rt : tryK ex hs (some (.rt v, m)) = some (.rt v, m) := rfl
@[simp] theorem hdZ_nil : hdZ ex [] c fs env m = some (.ex c fs env, m) := rfl
theorem hdZ_no {k : Str} {nm : Option Nat} (h : ex c k = some false) : hdZ ex ((k, nm, ds) :: hs) c fs env m = hdZ ex hs c fs env m := by
  show (match ex c k with
    | none => none
    | some false => hdZ ex hs c fs env m
    | some true => _) = _
  rw [h]
theorem hdZ_as {k : Str} (h : ex c k = some true) : hdZ ex ((k, some i, ds) :: hs) c fs env m = unname i (ds (env.set i (some (.err c fs))) m) := by
  show (match ex c k with
    | none => none
    | some false => _
    | some true => unname i (ds (env.set i (some (.err c fs))) m)) = _
  rw [h]
@[simp] theorem unname_rt : unname i (some (.rt v, m)) = some (.rt v, m) := rfl
@[simp] theorem unname_nx : unname i (some (.nx env, m)) = some (.nx (env.set i none), m) := rfl
def raiseK (env : Ev) : Option (R (Str × List (Str × Vl)) × Mem) → Option (Fl × Mem)
  | some (.ok q, m') => some (.ex q.1 q.2 env, m')
  | some (.ex c fs, m') => some (.ex c fs env, m')
  | none => none
@[simp] theorem dRaise_ap {dm : DM} : dRaise dm env m = raiseK env (dm env m) := rfl
@[simp] theorem raiseK_ok {q : Str × List (Str × Vl)} : raiseK env (some (.ok q, m)) = some (.ex q.1 q.2 env, m) := rfl
@[simp] theorem dMk_ap : dMk c f d env m = bindR (d env m) fun xs m => match xs with
  | [x] => some (.ok (c, [(f, x)]), m)
  | _ => none := rfl
@[simp] theorem dXf_ap : dXf cs f de env m = bindR (de env m) fun x m => match x with
  | .err c fs => if cs.contains c = true then (match fs.lookup f with
    | some v => some (.ok v, m)
    | none => none) else none
  | _ => none := rfl
@[simp] theorem dIsE_ap : dIsE cs kt de du env m = bindR (de env m) fun x m => bindR (du env m) fun u m => match x, clsD u with
  | .err c _, some t => if cs.contains c = true then (match kt (.c c) t with
    | some b => some (.ok (.bl b), m)
    | none => none) else none
  | _, _ => none := rfl
@[simp] theorem addA_str {a b : Str} (h : a.length + b.length ≤ sizeLine) : addA (.str a) (.str b) m = some (.str (a ++ b), m) := by
  unfold addA orF addI addS intF
  simp only [h, if_true]
end
end Z
namespace Z
open PySem PySem.Spec PyProof.Rows L2
variable [Kd]
/-! ### zip of lists that may be cells -/
def zW (w1 w2 : Wk) : Wk := fun i m => match w1 i m, w2 i m with
  | some (some x), some (some y) => some (some (.tup [x, y]))
  | some none, some _ => some none
  | some (some _), some none => some none
  | _, _ => none
/-- what a walk tells of the list at a -/
def RdW (K : PySem.W.Frag) (a : Addr) (ρ0 : Lay) (H0 : Hp) (w : Wk) : Prop := ∀ (i : Nat) (ρ : Lay) (m : Mem) (H : Hp), Ext ρ0 H0 ρ H → RM K ρ m H → ∀ o, w i m = some o → ∃ vs, SqL K H a vs ∧ match o with
  | some x => ∃ v, vs[i]? = some v ∧ RV K ρ H x v
  | none => vs.length ≤ i
section
variable {K : PySem.W.Frag} {ρ0 : Lay} {H0 : Hp} {xs ys : List Vl} {vs us : List V} {a b : Addr}
theorem rdW_stat (h : ∀ ρ H, Ext ρ0 H0 ρ H → SqL K H a vs) (r : RVs K ρ0 H0 xs vs) : RdW K a ρ0 H0 (statW xs) := fun i ρ m H E M o ho => by
  refine ⟨vs, h ρ H E, ?_⟩
  have ho' : xs[i]? = o := Option.some.inj ho
  cases o with
  | some x =>
    obtain ⟨v, h1, h2⟩ := (r.mono E).get ho'
    exact ⟨v, h1, h2⟩
  | none =>
    rw [← r.length]
    exact List.getElem?_eq_none_iff.mp ho'
theorem rdW_cell {n : Nat} (ha : ρ0.c[n]? = some a) : RdW K a ρ0 H0 (cellW n) := fun i ρ m H E M o ho => by
  have ha' : ρ.c[n]? = some a := by
    obtain ⟨t, ht⟩ := E.pre
    rw [← ht, List.getElem?_append_left (List.getElem?_eq_some_iff.mp ha).1]
    exact ha
  unfold cellW at ho
  split at ho
  · rename_i zs hm
    obtain ⟨vs, h1, h2⟩ := M.at_ _ _ _ hm ha'
    refine ⟨vs, SqL.of h1, ?_⟩
    have ho' : zs[i]? = o := Option.some.inj ho
    cases o with
    | some x =>
      obtain ⟨v, h3, h4⟩ := h2.get ho'
      exact ⟨v, h3, h4⟩
    | none =>
      rw [← h2.length]
      exact List.getElem?_eq_none_iff.mp ho'
  · cases ho
theorem wkOf_ok {ρ : Lay} {m : Mem} {H : Hp} {x : Vl} {v : V} {w : Wk × Nat} (M : RM K ρ m H) (r : RV K ρ H x v) (h : wkOf m x = some w) : ∃ p vs, v = .ref p ∧ SqL K H p vs ∧ RdW K p ρ H w.1 := by
  unfold wkOf at h
  split at h
  · rename_i n
    split at h
    · rename_i zs hz
      cases h
      obtain ⟨q, rfl, hq⟩ := r
      obtain ⟨vs, h1, h2⟩ := M.at_ _ _ _ hz hq
      exact ⟨q, vs, rfl, SqL.of h1, rdW_cell hq⟩
    · cases h
  · split at h
    · rename_i zs hz
      cases h
      obtain ⟨q, vs, rfl, h1, h2⟩ := staD_ok r hz
      exact ⟨q, vs, rfl, h1 ρ H .refl, rdW_stat h1 h2⟩
    · cases h
theorem itW_zip {w1 w2 : Wk} (h1 : RdW K a ρ0 H0 w1) (h2 : RdW K b ρ0 H0 w2) : ItW K (Itz K a b) ρ0 H0 (zW w1 w2) := fun i ρ m H E M => by
  unfold zW
  refine ⟨fun x hx => ?_, fun hx => ?_⟩
  · split at hx
    · rename_i y z e1 e2
      cases hx
      obtain ⟨vs, s1, v, g1, r1⟩ := h1 i ρ m H E M _ e1
      obtain ⟨us, s2, u, g2, r2⟩ := h2 i ρ m H E M _ e2
      refine ⟨⟨vs, us, v, u, s1, s2, g1, g2⟩, fun w H' q => ?_⟩
      obtain ⟨T, v', u', rfl, hT, rfl, q5, q6⟩ := q
      have e3 := q5 vs s1
      have e4 := q6 us s2
      rw [g1] at e3
      rw [g2] at e4
      cases e3
      cases e4
      exact ⟨M.laid hT, ext_new hT, new_tup M hT ⟨_, _, rfl, r1, _, _, rfl, r2, rfl⟩⟩
    · cases hx
    · cases hx
    · cases hx
  · split at hx
    · cases hx
    · rename_i o e1 e2
      obtain ⟨vs, s1, g1⟩ := h1 i ρ m H E M _ e1
      obtain ⟨us, s2, _⟩ := h2 i ρ m H E M _ e2
      exact ⟨vs, us, s1, s2, .inl g1⟩
    · rename_i y e1 e2
      obtain ⟨vs, s1, _⟩ := h1 i ρ m H E M _ e1
      obtain ⟨us, s2, g2⟩ := h2 i ρ m H E M _ e2
      exact ⟨vs, us, s1, s2, .inr g2⟩
    · cases hx
theorem rdW_A {W : WX} {d : DA} {f : List Vl → Mem → Option (R (Wk × Nat) × Mem)} {σ : L2.St} {H : Hp} {R : It → Hp → Prop} {Q : List V → Hp → Prop} (h : rdW K W (fun env m => bindR (d env m) f) σ H R)
    (k : ∀ x m1 ρ env w v H1, S K ρ env m1 σ H1 → RVs K ρ H1 x v → f x m1 = some (.ok w, m1) → (∀ J, ItW K J ρ H1 w.1 → R J H1) → Q v H1) (hf : ∀ x m r m', f x m = some (r, m') → (∃ w, r = .ok w) ∧ m' = m) : rdA K W d σ H Q := by
  obtain ⟨ρ, env, m, r, m', s, e, p⟩ := h
  have e' : bindR (d env m) f = some (r, m') := e
  unfold bindR at e'
  split at e'
  · cases e'
  · rename_i x m1 h0
    obtain ⟨⟨w, rfl⟩, rfl⟩ := hf x m1 r m' e'
    exact goA s h0 fun ρ' H' v s' E rv => k x _ ρ' env w v H' s' rv e' fun J hJ => p ρ' H' s'.mem E J hJ
  · rename_i c fs m1 h0
    cases e'
    exact exA s h0 fun ρ' H' dd s' E r => p ρ' H' s'.mem E dd r
end
def wZp (d : DA) : DW := fun env m => bindR (d env m) fun xs m => match xs with
  | [x, y] => (match wkOf m x, wkOf m y with
    | some w1, some w2 => some (.ok (zW w1.1 w2.1, min w1.2 w2.2), m)
    | _, _ => none)
  | _ => none
section
variable {X : Cx} {e : Expr} {pos p tpos : Pos} {d : DA}
theorem siw_zip {e2 : Expr} {elts : List Expr} {kk : Nat} (hg : Gl X "zip") (hm : X.mg "zip" = none) (ha : SA X [e, e2] d)
    (hs : starEach [e, e2] X.env = (false, eval e X.env) :: starEach [e2] X.env := by rfl) (hpl : (backTo pos (starEach [e2] X.env)).any (·.1) = false := by rfl) :
    SIW X (.Tuple elts kk tpos) (.Call (.Name "zip" p) [e, e2] [] pos) (wZp d) := ⟨fun W tk => impPI (pi_zip hg hm (ha.run W tk) hs hpl) fun σ H R h =>
  rdW_A (Q := fun vs H1 => ∃ a b xs ys, vs = [.ref a, .ref b] ∧ SqL X.K H1 a xs ∧ SqL X.K H1 b ys ∧ R (Itz X.K a b) H1) h (fun x m1 ρ env xs v H1 s r e k => by
    split at e
    · rename_i y z
      split at e
      · rename_i w1 w2 h1 h2
        cases e
        obtain ⟨w, vs, rfl, r1, w2, vs2, rfl, r2, r3⟩ := r
        subst r3
        obtain ⟨q, vs, rfl, h3, h4⟩ := wkOf_ok s.mem r1 h1
        obtain ⟨q2, vs2, rfl, h5, h6⟩ := wkOf_ok s.mem r2 h2
        exact ⟨q, q2, vs, vs2, rfl, h3, h5, k _ (itW_zip h4 h6)⟩
      · cases e
    · cases e) fun x m r m' e => by
    split at e
    · split at e
      · cases e
        exact ⟨⟨_, rfl⟩, rfl⟩
      · cases e
    · cases e⟩
end
@[simp] theorem wZp_ap {d : DA} {env : Ev} {m : Mem} : wZp d env m = bindR (d env m) fun xs m => match xs with
  | [x, y] => (match wkOf m x, wkOf m y with
    | some w1, some w2 => some (.ok (zW w1.1 w2.1, min w1.2 w2.2), m)
    | _, _ => none)
  | _ => none := rfl
end Z
namespace Z
open PySem PySem.Spec PyProof.Rows L2
variable [Kd]
/-! ### staticmethods, ~x of an own class -/
/-- the def of a staticmethod -/
def smA (K : PySem.W.Frag) (c m : Str) : Addr := match PySem.W.recIn K (He.ma K (He.ga K c) m) "staticmethod" with
  | some (.ref g :: _) => g
  | _ => 0
structure SMd (K : PySem.W.Frag) (c m : Str) : Prop where
  rd : ClX.CRead K (He.ga K c) (.type "type")
  at_ : PySem.W.findCls K (.ref (He.ga K c)) (.type "type") m = some (.get (.builtin "staticmethod.__get__") (.ref (He.ma K (He.ga K c) m)) .none (.ref (He.ga K c)))
  rc : ∃ rest, PySem.W.recIn K (He.ma K (He.ga K c) m) "staticmethod" = some (.ref (smA K c m) :: rest)
  kp : PySem.W.keepIn K (.ref (smA K c m)) = true
def isSmF (r : Option PySem.W.CFound) (p C : Addr) : Bool := match r with
  | some (.get (.builtin b) (.ref p') .none (.ref C')) => decide (b = "staticmethod.__get__") && (decide (p' = p) && decide (C' = C))
  | _ => false
theorem isSmF_ok {r : Option PySem.W.CFound} {p C : Addr} (h : isSmF r p C = true) : r = some (.get (.builtin "staticmethod.__get__") (.ref p) .none (.ref C)) := by
  unfold isSmF at h
  split at h
  · simp only [Bool.and_eq_true, decide_eq_true_eq] at h
    rw [h.1, h.2.1, h.2.2]
  · cases h
def ckSM (c m : Str) : Ck := fun K => PySem.W.readsIn K (He.ga K c) (.type "type") && (He.eqO (PySem.W.specialIn K (.ref (He.ga K c)) "__getattribute__") (some (some (.builtin "type.__getattribute__"))) &&
  (isSmF (PySem.W.findCls K (.ref (He.ga K c)) (.type "type") m) (He.ma K (He.ga K c) m) (He.ga K c) && ((match PySem.W.recIn K (He.ma K (He.ga K c) m) "staticmethod" with
    | some (.ref _ :: _) => true
    | _ => false) && PySem.W.keepIn K (.ref (smA K c m)))))
theorem ckSM_ok {K : PySem.W.Frag} {c m : Str} (h : ckSM c m K = true) : SMd K c m := by
  unfold ckSM at h
  simp only [Bool.and_eq_true] at h
  obtain ⟨h1, h2, h3, h4, h5⟩ := h
  refine ⟨⟨h1, He.eqO_ok h2⟩, isSmF_ok h3, ?_, h5⟩
  split at h4
  · rename_i g rest q
    refine ⟨rest, ?_⟩
    unfold smA
    rw [q]
  · cases h4
section
variable {X : Cx} {o e : Expr} {es : List Expr} {c mn : Str} {pos apos p : Pos} {de : DE} {d dk : DA} {k n : Nat} {f : Addr} {ks : List Str} {kws : List Keyword} {gz : List Vl → List Vl → List Vl} {g : FD} {W : WX} {pins : List (Addr × Obj)} {σ : L2.St} {H : Hp} {s : Shared}
theorem getsm_ok {pl : Sem Bool} {A : Around} {E : Value → Shared → Prop} {Q : Value × List Value → Shared → Prop} (I : Inv X pins σ H s) (h : SMd X.K c mn) (hQ : ∀ s', Inv X pins σ H s' → Q (.ref (smA X.K c mn), []) s') : wpAny (model X.prog X.w) A (getMethod (.ref (He.ga X.K c)) mn pl) Q E s := by
  obtain ⟨rest, hp⟩ := h.rc
  refine PySem.W.method_cls I.kIn h.rd.ga (PySem.W.cls_bind I.kIn h.rd.rd h.at_ ?_)
  refine wpAny_call (PySem.W.sm_get (s := { s with toks := s.toks + 1 }) I.kIn hp (PySem.W.handed_on rfl ?_))
  exact hQ _ (I.tok _)
def dSMeth (c : Str) (n j : Nat) (gz : List Vl → List Vl → List Vl) (g : FD) (de : DE) (d dk : DA) : DE := fun env m => bindR (de env m) fun x m => match x with
  | .glo c' => if c' = c then bindR (d env m) fun xs m => bindR (dk env m) fun ys m => if xs.length = n ∧ ys.length = j then g (gz xs ys) m else none else none
  | _ => none
theorem se_smeth {pl : Sem Bool} (he : SE X o de) (h : SMd X.K c mn) (F : Fz X.prog X.w X.K X.mg X.base k (smA X.K c mn) n [] gz g) (hr : Room k X.A) (ha : SA X (e :: es) d)
    (hst : starEach (e :: es) X.env = (false, eval e X.env) :: starEach es X.env := by rfl) (hpl : (backTo pos (starEach es X.env)).any (·.1) = false := by rfl)
    (ht : eval (.Call (.Attribute o mn apos) (e :: es) [] pos) X.env = (do
      let ov ← eval o X.env
      standAt apos.atName
      let (f, first) ← holding [ov] (getMethod ov mn pl)
      callWith pos f first (backTo pos (starEach (e :: es) X.env)) (backToKw pos (keywordEach [] X.env))) := by rfl) :
    SE X (.Call (.Attribute o mn apos) (e :: es) [] pos) (dSMeth c n 0 gz g de d dNone) := ⟨fun W tk => ⟨fun pins s σ H Q I h0 => by
  obtain ⟨ρ, env, m, z, m', st, ee, pp⟩ := h0
  have h' : rdE X.K W de σ H (fun v H1 => v = .ref (He.ga X.K c) ∧ rdA X.K W d σ H1 fun vs H2 => ∃ ρ1 m1 xs, RM X.K ρ1 m1 H2 ∧ RVs X.K ρ1 H2 xs vs ∧ xs.length = n ∧ g (gz xs []) m1 = some (z, m') ∧ Po X.K ρ1 H2 (RV X.K) (fun c dd H' => W c dd σ H') Q z m') :=
    bindE st ee pp fun x m1 ρ1 H1 v s1 E1 r1 e1 p1 => by
      split at e1
      · rename_i c'
        split at e1
        · rename_i hc
          subst hc
          refine ⟨r1, bindA s1 e1 p1 fun xs m2 ρ2 H2 vs s2 E2 r2 e2 p2 => ?_⟩
          unfold dNone bindR at e2
          simp only at e2
          split at e2
          · rename_i hn
            exact ⟨ρ2, m2, xs, s2.mem, r2, hn.1, e2, p2⟩
          · cases e2
        · cases e1
      · cases e1
  refine PySem.W.methodCall_KW (pl := pl) (thn ((he.run W tk).run pins s σ H _ I h') fun u s1 ⟨x, H1, I1, rx, ex, q⟩ => ?_) ht
  subst ex
  obtain rfl : u = Value.ref (He.ga X.K c) := rx
  refine getsm_ok I1 h fun s2 I2 => ?_
  refine PySem.W.callWith_K (first := []) (h₀ := X.base) I.ok.mod.kin h.kp (thn ((ha.run W tk).run pos pins s2 σ H1 _ I2 q) fun us s3 ⟨vs, H2, I3, r, ρ1, m1, xs, M1, rx, hn, e1, p1⟩ => ⟨I3.kIn, ?_⟩) hst hpl
  exact F.run hr tk (us := us) (vs := vs) (ws := []) I3 r .nil M1 rx (show RVs X.K ρ1 H2 [] [] from rfl) hn rfl e1 p1⟩⟩
theorem se_smeth0 {pl : Sem Bool} (he : SE X o de) (h : SMd X.K c mn) (F : Fz X.prog X.w X.K X.mg X.base k (smA X.K c mn) 0 [] gz g) (hr : Room k X.A)
    (ht : eval (.Call (.Attribute o mn apos) [] [] pos) X.env = (do
      let ov ← eval o X.env
      standAt apos.atName
      let (f, first) ← holding [ov] (getMethod ov mn pl)
      callWith pos f first (backTo pos (starEach [] X.env)) (backToKw pos (keywordEach [] X.env))) := by rfl) :
    SE X (.Call (.Attribute o mn apos) [] [] pos) (dSMeth c 0 0 gz g de dNone dNone) := ⟨fun W tk => ⟨fun pins s σ H Q I h0 => by
  obtain ⟨ρ, env, m, z, m', st, ee, pp⟩ := h0
  have h' : rdE X.K W de σ H (fun v H1 => v = .ref (He.ga X.K c) ∧ ∃ ρ1 m1, RM X.K ρ1 m1 H1 ∧ g (gz [] []) m1 = some (z, m') ∧ Po X.K ρ1 H1 (RV X.K) (fun c dd H' => W c dd σ H') Q z m') :=
    bindE st ee pp fun x m1 ρ1 H1 v s1 E1 r1 e1 p1 => by
      split at e1
      · rename_i c'
        split at e1
        · rename_i hc
          subst hc
          unfold dNone bindR at e1
          simp only [List.length_nil, and_self, if_true] at e1
          exact ⟨r1, ρ1, m1, s1.mem, e1, p1⟩
        · cases e1
      · cases e1
  refine PySem.W.methodCall_KW (pl := pl) (thn ((he.run W tk).run pins s σ H _ I h') fun u s1 ⟨x, H1, I1, rx, ex, ρ1, m1, M1, e1, p1⟩ => ?_) ht
  subst ex
  obtain rfl : u = Value.ref (He.ga X.K c) := rx
  refine getsm_ok I1 h fun s2 I2 => ?_
  exact PySem.W.callWith_K0 (first := []) I2.kIn h.kp (F.run hr tk (us := []) (vs := []) (ws := []) I2 .nil .nil M1 (show RVs X.K ρ1 H1 [] [] from rfl) (show RVs X.K ρ1 H1 [] [] from rfl) rfl rfl e1 p1)⟩⟩
/-- ~x by an own __invert__ -/
theorem own_inv {M : Model} {A : Around} {E : Value → Shared → Prop} {Q : Value → Shared → Prop} {K : PySem.W.Frag} {x C : Addr} {ox : Obj} {od : Option Obj} (hK : K.In s.heap) (J : PySem.W.InstAt s.heap x ox C od) (hs : PySem.W.findIn K (.ref C) "__invert__" = some (some (.ref f))) (hf : PySem.W.isFn K (.ref f) = true)
    (h : wpAny M A (call (.ref f) [.ref x]) Q E s) : wpAny M A (unaryOp .Invert (.ref x)) Q E s := by
  unfold unaryOp
  refine wpAny_holding (wpAny_bind (PySem.W.special_fn hK J hs (beq_iff_eq.mp hf) (wpAny_mono h (fun v s' z => ?_) fun _ _ z => z)))
  exact wpAny_pure z
def dInv (c : Str) (gz : List Vl → List Vl → List Vl) (g : FD) (de : DE) : DE := fun env m => bindR (de env m) fun x m => match insD m x with
  | some (c', _) => if c' = c then g (gz [x] []) m else none
  | none => none
theorem se_inv {ts : List TD} (he : SE X e de) (O : OwnM X.K c "__invert__" f ts) (F : Fz X.prog X.w X.K X.mg X.base k f 1 [] gz g) (hr : Room k X.A) : SE X (.UnaryOp .Invert e pos) (dInv c gz g de) := ⟨fun W tk => ⟨fun pins s σ H Q I h0 => by
  obtain ⟨ρ, env, m, z, m', st, ee, pp⟩ := h0
  have h' : rdE X.K W de σ H (fun v H1 => ∃ a dx gs, v = .ref a ∧ H1 a = some (.ins (He.ga X.K c) dx gs) ∧ ∃ ρ1 m1 xs, RM X.K ρ1 m1 H1 ∧ RVs X.K ρ1 H1 xs [.ref a] ∧ xs.length = 1 ∧ g (gz xs []) m1 = some (z, m') ∧ Po X.K ρ1 H1 (RV X.K) (fun c dd H' => W c dd σ H') Q z m') :=
    bindE st ee pp fun x m1 ρ1 H1 v s1 E1 r1 e1 p1 => by
      split at e1
      · rename_i c' fs hi
        split at e1
        · rename_i hc
          subst hc
          obtain ⟨a, dx, gs, rfl, h1, h2⟩ := insD_ok s1.mem r1 hi
          exact ⟨a, dx, gs, rfl, h1, ρ1, m1, [x], s1.mem, ⟨_, _, rfl, r1, rfl⟩, rfl, e1, p1⟩
        · cases e1
      · cases e1
  refine UnaryOp_ (thn ((he.run W tk).run pins s σ H _ I h') fun u s1 ⟨x, H1, I1, rx, a, dx, gs, ex, ea, ρ1, m1, xs, M1, rx1, hn, e1, p1⟩ => ?_)
  subst ex
  obtain rfl : u = Value.ref a := rx
  obtain ⟨mA, Ob, _⟩ := ins_get I1.hok ea
  obtain ⟨od, J, _⟩ := Ob.look
  exact own_inv I1.kIn J O.at_ O.fn (F.run hr tk (us := [.ref a]) (vs := [.ref a]) (ws := []) I1 (.cons rfl .nil) .nil M1 rx1 (show RVs X.K ρ1 H1 [] [] from rfl) hn rfl e1 p1)⟩⟩
end
@[simp] theorem dSMeth_ap {c : Str} {n j : Nat} {gz : List Vl → List Vl → List Vl} {g : FD} {de : DE} {d dk : DA} {env : Ev} {m : Mem} : dSMeth c n j gz g de d dk env m = bindR (de env m) fun x m => match x with
  | .glo c' => if c' = c then bindR (d env m) fun xs m => bindR (dk env m) fun ys m => if xs.length = n ∧ ys.length = j then g (gz xs ys) m else none else none
  | _ => none := rfl
@[simp] theorem dInv_ap {c : Str} {gz : List Vl → List Vl → List Vl} {g : FD} {de : DE} {env : Ev} {m : Mem} : dInv c gz g de env m = bindR (de env m) fun x m => match insD m x with
  | some (c', _) => if c' = c then g (gz [x] []) m else none
  | none => none := rfl
end Z
namespace Z
open PySem PySem.Spec PyProof.Rows L2
variable [Kd]
/-! ### a text n times, str of an int, tests of chains -/
def mulSC (z : Str) (i : Int) : Bool := decide (0 ≤ i) && (decide (i ≤ 1000) && decide (z.length ≤ 1000))
theorem mulOk_of {z : Str} {i : Int} (h : mulSC z i = true) : MulOk z i := by
  unfold mulSC at h
  rw [Bool.and_eq_true, Bool.and_eq_true, decide_eq_true_eq, decide_eq_true_eq, decide_eq_true_eq] at h
  obtain ⟨h0, h1, h2⟩ := h
  refine ⟨?_, fun hn _ => ?_, fun hn _ => ?_⟩
  · rw [decide_eq_false (by omega), decide_eq_false (by omega)]
    rfl
  · have hp : 0 < i := by omega
    have : (1000 : Int) ≤ (2 ^ 63 - 1) / i := (Int.le_ediv_iff_mul_le hp).mpr (by omega)
    omega
  · have hm : z.length * i.toNat ≤ 1000 * 1000 := Nat.mul_le_mul h2 (by omega)
    unfold Builtin.Str.tooLong
    exact decide_eq_false (Nat.not_lt.mpr (Nat.le_trans hm (by decide)))
def mulS : F2 := fun x y m => match x, y with
  | .str z, .int i => if mulSC z i = true then some (.str (Txt.mul z i), m) else none
  | _, _ => none
section
variable {X : Cx} {a b c e : Expr} {es : List Expr} {pos p : Pos} {da db dc : DE} {d : DA}
theorem op_mulS : OpR X (binaryOp .Mult) (fun x y H Q => ∃ z i, x = .str z ∧ y = .int i ∧ MulOk z i ∧ Q (.str (Txt.mul z i)) H) := by
  intro pins s σ H x y v u Q I rx ry h
  obtain ⟨z, i, rfl, rfl, ok, q⟩ := h
  obtain ⟨t, rfl⟩ := rx
  obtain ⟨t', rfl⟩ := ry
  exact PySem.SB.mul ok fun t2 k => ⟨.str _, H, I.tok k, ⟨t2, rfl⟩, q⟩
theorem sf_mulS {K : PySem.W.Frag} : SF2 K mulS (fun x y H Q => ∃ z i, x = .str z ∧ y = .int i ∧ MulOk z i ∧ Q (.str (Txt.mul z i)) H) := fun ρ m H x y v u z m' Q M a b e k => by
  unfold mulS at e
  split at e
  · rename_i w i
    split at e
    · rename_i hc
      cases e
      exact ⟨w, i, a, b, mulOk_of hc, k ρ H _ M .refl rfl⟩
    · cases e
  · cases e
theorem se_mulS (ha : SE X a da) (hb : SE X b db) : SE X (.BinOp a .Mult b pos) (d2 mulS da db) := se_2 op_mulS sf_mulS ha hb
theorem mulS_str {z : Str} {i : Int} {m : Mem} (h : mulSC z i = true) : mulS (.str z) (.int i) m = some (.str (Txt.mul z i), m) := by
  unfold mulS
  simp only [h, if_true]
def strIF : FB := fun xs m => match xs with
  | [.int i] => if i.natAbs.log2 < 1920 then some (.str (toString i), m) else none
  | _ => none
theorem scf_strI {K : PySem.W.Frag} : SCF K strIF (fun xs H Q => ∃ i, xs = [.int i] ∧ i.natAbs.log2 < 1920 ∧ Q (.str (toString i)) H) := fun ρ m H xs vs z m' Q M a e k => by
  unfold strIF at e
  split at e
  · rename_i i
    split at e
    · rename_i hc
      cases e
      obtain ⟨v, s, rfl, h1, h2⟩ := a
      subst h2
      exact ⟨i, by rw [show v = V.int i from h1], hc, k ρ H _ M .refl rfl⟩
    · cases e
  · cases e
theorem se_strI (hg : Gl X "str") (hm : X.mg "str" = none) (ha : SA X (e :: es) d) (he : starEach (e :: es) X.env = (false, eval e X.env) :: starEach es X.env := by rfl) (hpl : (backTo pos (starEach es X.env)).any (·.1) = false := by rfl) :
    SE X (.Call (.Name "str" p) (e :: es) [] pos) (dB strIF d) := se_callTy call_str_int scf_strI hg hm (by decide +kernel) ha (by decide) (by decide) he hpl
def tChn (f g : F2) (da db dc : DE) : DT := fun env m => bindR (da env m) fun x m => bindR (db env m) fun y m => match f x y m with
  | some (.bl true, m) => bindR (dc env m) fun z m => (match g y z m with
    | some (.bl k, m) => some (.ok k, m)
    | _ => none)
  | some (.bl false, m) => some (.ok false, m)
  | _ => none
theorem st_chain {op op' : CmpOp} {f g : F2} {r r' : R2} (ho : OpR X (compareOp op) r) (ho' : OpR X (compareOp op') r') (hf : SF2 X.K f r) (hg : SF2 X.K g r') (ha : SE X a da) (hb : SE X b db) (hc : SE X c dc)
    (hm : lastMarks [op, op'] [b, c] = false := by with_unfolding_all rfl) : ST X (.Compare a [op, op'] [b, c] pos) (tChn f g da db dc) := ⟨fun W tk =>
  impPT (pt_chain ho ho' (ha.run W tk) (hb.run W tk) (hc.run W tk) hm) fun σ H Q ⟨ρ, env, m, z, m', s, e, p⟩ =>
    bindE s e p fun x m1 ρ1 H1 v s1 E1 r1 e1 p1 => bindE s1 e1 p1 fun y m2 ρ2 H2 u s2 E2 r2 e2 p2 => by
      split at e2
      · rename_i m3 h1
        refine hf ρ2 m2 H2 x y v u _ m3 _ s2.mem (r1.mono E2) r2 h1 fun ρ' H' u' M E r => ⟨true, r, ?_⟩
        rw [if_pos rfl]
        exact bindE (s2.to E M) e2 (p2.mono E) fun z m4 ρ4 H4 v4 s4 E4 r4 e4 p4 => by
          split at e4
          · rename_i k m5 h5
            cases e4
            exact hg ρ4 m4 H4 y z u v4 _ m' _ s4.mem (r2.mono (E.trans E4)) r4 h5 fun ρ' H' u' M E r => ⟨k, r, p4 ρ' H' M E k rfl⟩
          · cases e4
      · rename_i m3 h1
        cases e2
        refine hf ρ2 m2 H2 x y v u _ _ _ s2.mem (r1.mono E2) r2 h1 fun ρ' H' u' M E r => ⟨false, r, ?_⟩
        rw [if_neg (by decide)]
        exact ⟨false, rfl, p2 ρ' H' M E false rfl⟩
      · cases e2⟩
theorem se_ch2 {op op' : CmpOp} {f g : F2} {r r' : R2} (ho : OpR X (compareOp op) r) (ho' : OpR X (compareOp op') r') (hf : SF2 X.K f r) (hg : SF2 X.K g r') (ha : SE X a da) (hb : SE X b db) (hc : SE X c dc)
    (hm : lastMarks [op, op'] [b, c] = false := by with_unfolding_all rfl) : SE X (.Compare a [op, op'] [b, c] pos) (dChain f g da db dc) := se_chain ho ho' hf hg ha hb hc hm
end
@[simp] theorem tChn_ap {f g : F2} {da db dc : DE} {env : Ev} {m : Mem} : tChn f g da db dc env m = bindR (da env m) fun x m => bindR (db env m) fun y m => match f x y m with
  | some (.bl true, m) => bindR (dc env m) fun z m => (match g y z m with
    | some (.bl k, m) => some (.ok k, m)
    | _ => none)
  | some (.bl false, m) => some (.ok false, m)
  | _ => none := rfl
@[simp] theorem dChain_ap {f g : F2} {da db dc : DE} {env : Ev} {m : Mem} : dChain f g da db dc env m = bindR (da env m) fun x m => bindR (db env m) fun y m => match f x y m with
  | some (.bl true, m) => bindR (dc env m) fun z m => okR (g y z m)
  | some (.bl false, m) => some (.ok (.bl false), m)
  | _ => none := rfl
end Z
namespace Z
open PySem PySem.Spec PyProof.Rows L2
variable [Kd]
/-! ### x & y, x | y, .. of two instances of one own class -/
structure BinC (K : PySem.W.Frag) (c : Str) (op : Operator) (f : Addr) : Prop where
  sf : PySem.W.selfFirst K (He.ga K c) = true
  at_ : PySem.W.findIn K (.ref (He.ga K c)) (PySem.dunder op.info.2) = some (some (.ref f))
  fn : PySem.W.isFn K (.ref f) = true
def ckBin (c mn : Str) (op : Operator) : Ck := fun K => PySem.W.selfFirst K (He.ga K c) && (decide (PySem.dunder op.info.2 = mn) && (He.eqO (PySem.W.findIn K (.ref (He.ga K c)) mn) (some (some (.ref (He.ma K (He.ga K c) mn)))) && PySem.W.isFn K (.ref (He.ma K (He.ga K c) mn))))
theorem ckBin_ok {K : PySem.W.Frag} {c mn : Str} {op : Operator} (h : ckBin c mn op K = true) : BinC K c op (He.ma K (He.ga K c) mn) := by
  unfold ckBin at h
  rw [Bool.and_eq_true, Bool.and_eq_true, Bool.and_eq_true, decide_eq_true_eq] at h
  obtain ⟨h1, h2, h3, h4⟩ := h
  exact ⟨h1, by rw [h2]; exact He.eqO_ok h3, h4⟩
section
variable {X : Cx} {a b : Expr} {c : Str} {pos : Pos} {da db : DE} {k : Nat} {f : Addr} {gz : List Vl → List Vl → List Vl} {g : FD} {op : Operator}
def dBinC (c : Str) (gz : List Vl → List Vl → List Vl) (g : FD) (da db : DE) : DE := fun env m => bindR (da env m) fun x m => bindR (db env m) fun y m => match insD m x, insD m y with
  | some (c1, _), some (c2, _) => if (decide (c1 = c) && decide (c2 = c)) = true then g (gz [x, y] []) m else none
  | _, _ => none
theorem cmpBack_of {pins : List (Addr × Obj)} {σ : L2.St} {Q : VK} {w : Value} {s' : Shared} (h : EP X pins σ Q w s') : PySem.W.CmpBack (EP X pins σ Q) w s' := by
  cases w with
  | notImplemented =>
    obtain ⟨v, H', _, rv, _⟩ := h
    cases v <;> first | (obtain ⟨_, hh⟩ := rv; cases hh) | cases rv
  | _ => exact h
theorem se_binC (B : BinC X.K c op f) (F : Fz X.prog X.w X.K X.mg X.base k f 2 [] gz g) (hr : Room k X.A) (ha : SE X a da) (hb : SE X b db) : SE X (.BinOp a op b pos) (dBinC c gz g da db) := ⟨fun W tk => ⟨fun pins s σ H Q I h => by
  obtain ⟨ρ, env, m, z, m', st, ee, pp⟩ := h
  refine wpAny_BinOp ?_
  have h' : rdE X.K W da σ H (fun v H1 => rdE X.K W db σ H1 fun u H2 => ∃ q dx gs q2 dx2 gs2 ρ' m1 xs, v = .ref q ∧ u = .ref q2 ∧ H2 q = some (.ins (He.ga X.K c) dx gs) ∧ H2 q2 = some (.ins (He.ga X.K c) dx2 gs2) ∧ RM X.K ρ' m1 H2 ∧ RVs X.K ρ' H2 xs [.ref q, .ref q2] ∧ xs.length = 2 ∧ g (gz xs []) m1 = some (z, m') ∧ Po X.K ρ' H2 (RV X.K) (fun c dd H' => W c dd σ H') Q z m') :=
    bindE st ee pp fun x m1 ρ1 H1 v s1 E1 r1 e1 p1 => bindE s1 e1 p1 fun y m2 ρ2 H2 u s2 E2 r2 e2 p2 => by
      split at e2
      · rename_i c1 fs c2 fs2 hi hj
        split at e2
        · rename_i hc
          rw [Bool.and_eq_true, decide_eq_true_eq, decide_eq_true_eq] at hc
          obtain ⟨rfl, rfl⟩ := hc
          obtain ⟨q, dx, gs, rfl, h3, h4⟩ := insD_ok s2.mem (r1.mono E2) hi
          obtain ⟨q2, dx2, gs2, rfl, h5, h6⟩ := insD_ok s2.mem r2 hj
          exact ⟨q, dx, gs, q2, dx2, gs2, ρ2, m2, [x, y], rfl, rfl, h3, h5, s2.mem, ⟨_, _, rfl, r1.mono E2, _, _, rfl, r2, rfl⟩, rfl, e2, p2⟩
        · cases e2
      · cases e2
  refine thn ((ha.run W tk).run pins s σ H _ I h') fun v s1 ⟨x, H1, I1, rx, q1⟩ => ?_
  refine thn ((hb.run W tk).run pins s1 σ H1 _ I1 q1) fun u s2 ⟨y, H2, I2, ry, q, dx, gs, q2, dx2, gs2, ρ2, m2, xs, ex, ey, hq, hq2, M2, rxs, hn, eg, p2⟩ => ?_
  subst ex ey
  obtain rfl : v = Value.ref q := rx
  obtain rfl : u = Value.ref q2 := ry
  obtain ⟨mA, Oa, _⟩ := ins_get I2.hok hq
  obtain ⟨od, J, _⟩ := Oa.look
  obtain ⟨mB, Ob, _⟩ := ins_get I2.hok hq2
  obtain ⟨od2, J2, _⟩ := Ob.look
  obtain ⟨m0, hF⟩ := I2.fr
  refine PySem.W.binop_K hF I2.ok.mod.kin J J2.type B.sf B.at_ B.fn ?_
  exact thn (F.run hr tk (us := [.ref q, .ref q2]) (vs := [.ref q, .ref q2]) (ws := []) I2 (.cons rfl (.cons rfl .nil)) .nil M2 rxs (show RVs X.K ρ2 H2 [] [] from rfl) hn rfl eg p2) fun w s' z => cmpBack_of z⟩⟩
end
/-- a reading that is nowhere some promises nothing -/
theorem fnOk_none {P : Program} {w : World} {K : PySem.W.Frag} {mg : Str → Option Value} {base : Heap} {CX : CXT} {k n : Nat} {f : Addr} {fd : FuncData} {ps : List Str} : Z.FnOk P w K mg base CX k f fd ps (spZ K n (fun _ _ => none)) := by
  have no : ∀ (vs : List V) (H : Hp) (Q : VK) (E : XK), spZ K n (fun _ _ => none) vs H Q E → False := fun vs H Q E h => by
    obtain ⟨_, _, _, _, _, _, _, _, e, _⟩ := h
    cases e
  exact ⟨fun vs H Q E h => (no vs H Q E h).elim, fun A outer s H args us vs Q E _ _ _ _ h => (no vs H Q E h).elim⟩
/-! a, b, c = x, y, z -/
def dPar3 (i j l : Nat) (d : DA) : DS := fun env m => bindS (d env m) env fun xs m => match xs with
  | [x, y, z] => some (.nx (((env.set i (some x)).set j (some y)).set l (some z)), m)
  | _ => none
theorem ss_par3 {X : Cx} {da : DA} {pos : Pos} {i j l : Nat} {x y z : Str} {a b c : Expr} {px py pz pt : Pos} {kt k2 : Nat} {pt2 : Pos} (hc : X.calm = true) (hN : X.N.Nodup) (hi : X.N[i]? = some x) (hj : X.N[j]? = some y) (hl : X.N[l]? = some z) (hij : i ≠ j) (hil : i ≠ l) (hjl : j ≠ l)
    (hx : X.env.scope.names.lookup x = some .local) (hy : X.env.scope.names.lookup y = some .local) (hz : X.env.scope.names.lookup z = some .local) (ha : SA X [a, b, c] da)
    (hw : swappedStores [.Tuple [.Name x px, .Name y py, .Name z pz] kt pt] (.Tuple [a, b, c] k2 pt2) X.env = pure (some [x, y, z]))
    (hs : swapsWithSole [.Tuple [.Name x px, .Name y py, .Name z pz] kt pt] (.Tuple [a, b, c] k2 pt2) pos.line X.env = pure false := by rfl) :
    SS X (.Assign [.Tuple [.Name x px, .Name y py, .Name z pz] kt pt] (.Tuple [a, b, c] k2 pt2) pos) (dPar3 i j l da) := ⟨fun W tk =>
  impPS (ps_par3 hc hN hi hj hl hij hil hjl hx hy hz (ha.run W tk) hw hs) fun D σ H ⟨ρ, env, m, f, m', s, e, p⟩ => sbA s e p fun xs m1 ρ1 H1 vs s1 E1 r1 e1 p1 => by
    split at e1
    · rename_i x y z
      cases e1
      obtain ⟨v, vs, rfl, r2, w, ws, rfl, r3, u, us, rfl, r4, r5⟩ := r1
      subst r5
      exact ⟨v, w, u, rfl, p1 ρ1 H1 s1.mem .refl _ (((s1.env.set r2).set r3).set r4)⟩
    · cases e1⟩
end Z
namespace Z
open PySem PySem.Spec PyProof.Rows L2
variable [Kd]
/-! ### x & y, x | y, .. of an instance of an own class and of anything whose type is told -/
section
open PySem.W
variable {prog : Program} {w : World} {A : Around} {E : Value → Shared → Prop} {s : Shared} {K : Frag} {x C L f : Addr} {h₀ : Heap} {m : Str → Option Value} {ox : Obj} {od : Option Obj} {T : String}
theorem bin_typed {op : Operator} {b : Value} {fo ro : Option Value} {Q : Value → Shared → Prop} (fr : Fr h₀ L s.heap m) (kin : K.In h₀) (inst : InstAt s.heap x ox C od) (tb : Looks (model prog w) s.heap (typeOf b) (.type T)) (sf : selfFirst K C = true)
    (at_ : findIn K (.ref C) (PySem.dunder op.info.2) = some (some (.ref f))) (fn : isFn K (.ref f) = true) (rn : findIn K (.ref C) (dunderR op.info.2) = some none)
    (e1 : findIn K (.type T) (PySem.dunder op.info.2) = some fo) (e2 : findIn K (.type T) (dunderR op.info.2) = some ro) (ns : subIn K (.type T) (.ref C) = some false)
    (k : wpAny (model prog w) A (call (.ref f) [.ref x, b]) (PySem.W.CmpBack Q) E s) : wpAny (model prog w) A (binaryOp op (.ref x) b) Q E s := by
  have kk := kin.keeps fr.keep
  obtain ⟨cd, r, hcd, hm⟩ := ksp_first sf
  generalize hi : op.info = inf at at_ rn e1 e2
  obtain ⟨sym, nm⟩ := inf
  have one := ksp_try kk inst at_ fn k
  obtain ⟨hh, g, d, tt, os⟩ := s
  have p1 : Looks (model prog w) hh (typeOf (.ref x)) (.ref C) := inst.type
  have p2 : Looks (model prog w) hh (typeOf b) (.type T) := tb
  have p3 : Looks (model prog w) hh (fillsNumberSlot (.ref C) nm) true := fills_K kk hcd hm at_
  have p4 : Looks (model prog w) hh (fillsNumberSlot (.type T) nm) ((fo.isSome && !isSeqSlot fo) || (ro.isSome && !isSeqSlot ro)) := ksp_fillsT kk e1 e2
  have p5 : Looks (model prog w) hh (isSubtype (.type T) (.ref C)) false := looks_subIn kk ns
  have p6 : Looks (model prog w) hh (numberSlotInPython (.ref C) nm) true := ksp_inPy kk at_ rn (.inl rfl)
  have p7 : Looks (model prog w) hh (numberSlotInPython (.type T) nm) false := Looks.of_pure rfl
  have p8 : Looks (model prog w) hh (typeLookup (.type T) (dunderR nm)) ro := looks_findIn kk e2
  generalize ((fo.isSome && !isSeqSlot fo) || (ro.isSome && !isSeqSlot ro)) = z at p4
  have hne : (Value.ref C == Value.type T) = false := by
    rw [Bool.eq_false_iff]
    intro q
    cases beq_iff_eq.mp q
  simp only [binaryOp, hi]
  refine wpAny_holding (wpAny_bind ?_)
  unfold binaryOp1
  refine wpAny_bind (p1.at (wpAny_bind (p2.at (wpAny_bind (p3.at ?_)))))
  simp only [hne, Bool.false_eq_true, if_false]
  cases z <;>
  · ksp_lk
    refine wpAny_mono one (fun r s' hr' => ?_) fun _ _ e => e
    obtain ⟨v, rfl, hq⟩ := hr'
    ksp_lk
    exact hq
end
structure BinM (K : PySem.W.Frag) (c : Str) (op : Operator) (f : Addr) (bs : List String) : Prop where
  b : BinC K c op f
  rn : PySem.W.findIn K (.ref (He.ga K c)) (dunderR op.info.2) = some none
  ty : ∀ T ∈ bs, (∃ fo, PySem.W.findIn K (.type T) (PySem.dunder op.info.2) = some fo) ∧ (∃ ro, PySem.W.findIn K (.type T) (dunderR op.info.2) = some ro) ∧ PySem.W.subIn K (.type T) (.ref (He.ga K c)) = some false
def ckBinM (c mn : Str) (op : Operator) (bs : List String) : Ck := fun K => ckBin c mn op K && (He.eqO (PySem.W.findIn K (.ref (He.ga K c)) (dunderR op.info.2)) (some none) && bs.all fun T => (PySem.W.findIn K (.type T) (PySem.dunder op.info.2)).isSome && ((PySem.W.findIn K (.type T) (dunderR op.info.2)).isSome && (PySem.W.subIn K (.type T) (.ref (He.ga K c)) == some false)))
theorem ckBinM_ok {K : PySem.W.Frag} {c mn : Str} {op : Operator} {bs : List String} (h : ckBinM c mn op bs K = true) : BinM K c op (He.ma K (He.ga K c) mn) bs := by
  unfold ckBinM at h
  rw [Bool.and_eq_true, Bool.and_eq_true] at h
  obtain ⟨h1, h2, h3⟩ := h
  refine ⟨ckBin_ok h1, He.eqO_ok h2, fun T hT => ?_⟩
  have h4 := List.all_eq_true.mp h3 T hT
  rw [Bool.and_eq_true, Bool.and_eq_true] at h4
  obtain ⟨h5, h6, h7⟩ := h4
  exact ⟨Option.isSome_iff_exists.mp h5, Option.isSome_iff_exists.mp h6, beq_iff_eq.mp h7⟩
section
variable {X : Cx} {a b : Expr} {c : Str} {pos : Pos} {da db : DE} {k : Nat} {f : Addr} {gz : List Vl → List Vl → List Vl} {g : FD} {op : Operator} {cs : List Str} {bs : List String}
/-- the types that may stand on the right -/
def binOk (c : Str) (bs : List String) : TD → Bool
  | .c d => decide (d = c)
  | .b T => bs.contains T
def dBinM (c : Str) (cs : List Str) (bs : List String) (gz : List Vl → List Vl → List Vl) (g : FD) (da db : DE) : DE := fun env m => bindR (da env m) fun x m => bindR (db env m) fun y m => match insD m x, tyD m y with
  | some (c1, _), some t => if (decide (c1 = c) && (binOk c bs t && tdOk cs t)) = true then g (gz [x, y] []) m else none
  | _, _ => none
theorem se_binM (B : BinM X.K c op f bs) (hI : InsA X.K cs) (F : Fz X.prog X.w X.K X.mg X.base k f 2 [] gz g) (hr : Room k X.A) (ha : SE X a da) (hb : SE X b db) : SE X (.BinOp a op b pos) (dBinM c cs bs gz g da db) := ⟨fun W tk => ⟨fun pins s σ H Q I h => by
  obtain ⟨ρ, env, m, z, m', st, ee, pp⟩ := h
  refine wpAny_BinOp ?_
  have h' : rdE X.K W da σ H (fun v H1 => rdE X.K W db σ H1 fun u H2 => ∃ q dx gs ρ' m1 xv yv t, v = .ref q ∧ H2 q = some (.ins (He.ga X.K c) dx gs) ∧ RM X.K ρ' m1 H2 ∧ RV X.K ρ' H2 xv v ∧ RV X.K ρ' H2 yv u ∧ tyD m1 yv = some t ∧ binOk c bs t = true ∧ tdOk cs t = true ∧ g (gz [xv, yv] []) m1 = some (z, m') ∧ Po X.K ρ' H2 (RV X.K) (fun c dd H' => W c dd σ H') Q z m') :=
    bindE st ee pp fun x m1 ρ1 H1 v s1 E1 r1 e1 p1 => bindE s1 e1 p1 fun y m2 ρ2 H2 u s2 E2 r2 e2 p2 => by
      split at e2
      · rename_i c1 fs t hi ht
        split at e2
        · rename_i hc
          rw [Bool.and_eq_true, Bool.and_eq_true, decide_eq_true_eq] at hc
          obtain ⟨rfl, hc1, hc2⟩ := hc
          obtain ⟨q, dx, gs, rfl, h3, h4⟩ := insD_ok s2.mem (r1.mono E2) hi
          exact ⟨q, dx, gs, ρ2, m2, x, y, t, rfl, h3, s2.mem, r1.mono E2, r2, ht, hc1, hc2, e2, p2⟩
        · cases e2
      · cases e2
  refine thn ((ha.run W tk).run pins s σ H _ I h') fun v s1 ⟨x, H1, I1, rx, q1⟩ => ?_
  refine thn ((hb.run W tk).run pins s1 σ H1 _ I1 q1) fun u s2 ⟨y, H2, I2, ry, q, dx, gs, ρ2, m2, xv, yv, t, ex, hq, M2, rxv, ryv, ht, hts, htc, eg, p2⟩ => ?_
  subst ex
  obtain rfl : v = Value.ref q := rx
  obtain ⟨mA, Oa, _⟩ := ins_get I2.hok hq
  obtain ⟨od, J, _⟩ := Oa.look
  obtain ⟨m0, hF⟩ := I2.fr
  obtain ⟨P, kx, hP, _⟩ := kit_of I2 ry (tyD_ok hI M2 ryv ht htc)
  have hl := kx.ty (model X.prog X.w) s2.heap I2.kIn hP
  have fin := thn (F.run hr tk (us := [.ref q, u]) (vs := [.ref q, y]) (ws := []) I2 (.cons rfl (.cons ry .nil)) .nil M2 (show RVs X.K ρ2 H2 [xv, yv] [.ref q, y] from ⟨_, _, rfl, rxv, _, _, rfl, ryv, rfl⟩) (show RVs X.K ρ2 H2 [] [] from rfl) rfl rfl eg p2) fun w s' z => cmpBack_of z
  cases t with
  | c d =>
    obtain rfl : d = c := of_decide_eq_true hts
    exact PySem.W.binop_K hF I2.ok.mod.kin J hl B.b.sf B.b.at_ B.b.fn fin
  | b T =>
    have hT : T ∈ bs := List.contains_iff_mem.mp hts
    obtain ⟨⟨fo, h1⟩, ⟨ro, h2⟩, h3⟩ := B.ty T hT
    exact bin_typed hF I2.ok.mod.kin J hl B.b.sf B.b.at_ B.b.fn B.rn h1 h2 h3 fin⟩⟩
end
end Z
namespace Z
open PySem PySem.Spec PyProof.Rows L2
variable [Kd]
/-! ### xs.extend(ys) -/
/-- a list that nobody has laid down for good -/
def plainL (m : Mem) : Vl → Option (List Vl)
  | .lst xs => some xs
  | .obj n => (match m[n]? with
    | some (.lst xs) => some xs
    | _ => none)
  | _ => none
def extM : FM := fun x xs m => match x, xs with
  | .obj n, [y] => (match m[n]?, plainL m y with
    | some (.lst ys), some zs => if ys.length + zs.length ≤ sizeLine then some (.non, m.set n (.lst (ys ++ zs))) else none
    | _, _ => none)
  | _, _ => none
theorem plainL_ok {K : PySem.W.Frag} {ρ : Lay} {m : Mem} {H : Hp} {x : Vl} {v : V} {xs : List Vl} (M : RM K ρ m H) (a : RV K ρ H x v) (h : plainL m x = some xs) : ∃ b vs, v = .ref b ∧ H b = some (.lst vs) ∧ RVs K ρ H xs vs := by
  cases x with
  | lst ys =>
    cases h
    obtain ⟨b, vs, rfl, _, h1, h2⟩ := a
    exact ⟨b, vs, rfl, h1, h2⟩
  | obj n =>
    unfold plainL at h
    dsimp only at h
    split at h
    · rename_i ys hy
      cases h
      obtain ⟨q, rfl, hq⟩ := a
      obtain ⟨us, h1, h2⟩ := M.at_ _ _ _ hy hq
      exact ⟨q, us, rfl, h1, h2⟩
    · cases h
  | _ => cases h
theorem smf_ext {K : PySem.W.Frag} : SMF K extM "list" rExtend := fun ρ m H x xs v vs z m' Q M a b e k => by
  unfold extM at e
  split at e
  · rename_i n y
    split at e
    · rename_i ys zs hy hz
      split at e
      · rename_i hc
        cases e
        obtain ⟨q, rfl, hq⟩ := a
        obtain ⟨us, h1, h2⟩ := M.at_ _ _ _ hy hq
        obtain ⟨v, s, rfl, r1, r2⟩ := b
        subst r2
        obtain ⟨p, ws, rfl, h3, h4⟩ := plainL_ok M r1 hz
        obtain ⟨M', E'⟩ := put_lst M hq (h2.append h4)
        exact ⟨q, p, us, ws, rfl, rfl, h1, h3, by rw [← h2.length, ← h4.length]; exact hc, k ρ _ _ M' E' rfl⟩
      · cases e
    · cases e
  · cases e
section
variable {X : Cx} {o e : Expr} {apos pos : Pos} {de : DE} {d : DA}
theorem se_extend (ho : SE X o de) (ha : SA X [e] d)
    (hbase : attributeBase o "extend" X.env (eval o X.env) = eval o X.env := by rfl)
    (hfew : ((backTo pos (starEach [e] X.env)).all (fun x => !x.1) && (backToKw pos (keywordEach [] X.env)).all (fun x => x.1.isSome)
      && decide ([e].length + ([] : List Keyword).length + (if ([] : List Keyword).isEmpty then 0 else 1) < 30)) = true := by rfl)
    (hline : (apos.endLine == pos.line) = true := by rfl) (hs : starEach [e] X.env = (false, eval e X.env) :: starEach [] X.env := by rfl) (hplain : (backTo pos (starEach [] X.env)).any (·.1) = false := by rfl) :
    SE X (.Call (.Attribute o "extend" apos) [e] [] pos) (dM "list" extM de d) := se_bm PySem.F.plainAttrs_list PySem.F.slot_list_extend PySem.F.type_list_extend mt_extend smf_ext ho ha hbase hfew hline hs hplain
end
theorem extM_z {p : Nat} {m : Mem} {y : Vl} {ys zs : List Vl} (hp : m[p]? = some (.lst ys)) (hy : plainL m y = some zs) (h : ys.length + zs.length ≤ sizeLine) : extM (.obj p) [y] m = some (.non, m.set p (.lst (ys ++ zs))) := by
  unfold extM
  simp only [hp, hy, h, if_true]
/-! ### data in which cells lie -/
def toDd (m : Mem) : Nat → Vl → Option PyData
  | 0, x => toDm m x
  | k + 1, .obj n => (match m[n]? with
    | some (.lst xs) => (mapO (toDd m k) xs).map .list
    | _ => none)
  | k + 1, .lst xs => (mapO (toDd m k) xs).map .list
  | k + 1, .tup xs => (mapO (toDd m k) xs).map .tuple
  | k + 1, x => toD x
theorem dpAll_of {K : PySem.W.Frag} {H : Hp} {f : Vl → Option PyData} {ρ : Lay} (ih : ∀ {x : Vl} {v : V} {d : PyData}, RV K ρ H x v → f x = some d → Dp K H v d) : ∀ {xs : List Vl} {vs : List V} {ds : List PyData}, RVs K ρ H xs vs → mapO f xs = some ds → DpAll K H vs ds
  | [], _, _, h, e => by
    cases e
    rw [show _ = [] from h]
    exact .nil
  | x :: xs, _, _, ⟨v, r, h1, h2, h3⟩, e => by
    subst h1
    unfold mapO at e
    split at e
    · rename_i d hd
      split at e
      · rename_i ds hds
        cases e
        exact .cons (ih h2 hd) (dpAll_of ih h3 hds)
      · cases e
    · cases e
theorem toDd_ok {K : PySem.W.Frag} {ρ : Lay} {m : Mem} {H : Hp} (M : RM K ρ m H) : ∀ (k : Nat) {x : Vl} {v : V} {d : PyData}, RV K ρ H x v → toDd m k x = some d → Dp K H v d
  | 0, x, v, d, h, e => toDm_ok M h e
  | k + 1, x, v, d, h, e => by
    cases x with
    | obj n =>
      unfold toDd at e
      split at e
      · rename_i xs hx
        obtain ⟨ds, h1, rfl⟩ := map_some e
        obtain ⟨p, rfl, hp⟩ := h
        obtain ⟨vs, h2, h3⟩ := M.at_ _ _ _ hx hp
        exact .lst (SqL.of h2) (dpAll_of (toDd_ok M k) h3 h1)
      · cases e
    | lst xs =>
      obtain ⟨ds, h1, rfl⟩ := map_some (show (mapO (toDd m k) xs).map PyData.list = some d from e)
      obtain ⟨p, vs, rfl, _, h2, h3⟩ := h
      exact .lst (SqL.of h2) (dpAll_of (toDd_ok M k) h3 h1)
    | tup xs =>
      obtain ⟨ds, h1, rfl⟩ := map_some (show (mapO (toDd m k) xs).map PyData.tuple = some d from e)
      obtain ⟨p, vs, rfl, h2, h3⟩ := h
      exact .tup h2.sq (dpAll_of (toDd_ok M k) h3 h1)
    | _ => exact toD_ok h e
def reprN : FB := fun xs m => match xs with
  | [x] => (match toDd m 3 x with
    | some d => if (PyData.showable d && !PyData.hasDict d && decide (d.depth ≤ 60) && decide (shB d ≤ sizeLine)) = true then some (.str d.shown, m) else none
    | none => none)
  | _ => none
theorem scf_reprN {K : PySem.W.Frag} : SCF K reprN (fun xs H Q => ∃ x d, xs = [x] ∧ Dp K H x d ∧ PyData.showable d = true ∧ PyData.hasDict d = false ∧ d.depth ≤ 60 ∧ d.shown.length ≤ sizeLine ∧ Q (.str d.shown) H) := fun ρ m H xs vs z m' Q M a e k => by
  unfold reprN at e
  split at e
  · rename_i x
    split at e
    · rename_i d hd
      split at e
      · rename_i c
        cases e
        simp only [Bool.and_eq_true, Bool.not_eq_true', decide_eq_true_eq] at c
        obtain ⟨v, s, rfl, h1, h2⟩ := a
        subst h2
        exact ⟨v, d, rfl, toDd_ok M 3 h1 hd, c.1.1.1, c.1.1.2, c.1.2, Nat.le_trans (shown_le d) c.2, k ρ H _ M .refl rfl⟩
      · cases e
    · cases e
  · cases e
section
variable {X : Cx}
theorem se_reprN {p pos : Pos} {es : List Expr} {e : Expr} {d : DA} (hr : Room 0 X.A) (hg : Gl X "repr") (hm : X.mg "repr" = none) (ha : SA X (e :: es) d) (he : starEach (e :: es) X.env = (false, eval e X.env) :: starEach es X.env := by rfl) (hpl : (backTo pos (starEach es X.env)).any (·.1) = false := by rfl) :
    SE X (.Call (.Name "repr" p) (e :: es) [] pos) (dB reprN d) := se_callB (call_reprD hr) scf_reprN hg hm (by decide +kernel) ha (by decide) (by decide) he hpl
end
end Z
namespace Z
open PySem PySem.Spec PyProof.Rows L2
variable [Kd]
/-! ### x(..) of an instance whose class has a __call__ -/
section
open PySem.W
variable {prog : Program} {w : World} {A : Around} {E : Value → Shared → Prop} {s : Shared} {K : Frag} {q dx C f : Addr}
theorem callWith_inst {pos : Pos} {first : List Value} {args : List (Bool × Sem Value)} {Q : Value → Shared → Prop} (hp : args.any (·.1) = false)
    (h : wpAny (model prog w) A (evalArgs (.ref q) true args []) (fun x s₁ => (∃ dx, s₁.heap.get? q = some (instObj C dx)) ∧ wpAny (model prog w) A (call (.ref q) (first ++ x.pos) x.kw) Q E s₁) E s) : wpAny (model prog w) A (callWith pos (.ref q) first args []) Q E s := by
  unfold callWith
  refine wpAny_bind (wpAny_holding (wpAny_mono h (fun x s₁ h₁ => wpAny_bind (wpAny_standAt ?_)) fun _ _ x => x))
  obtain ⟨⟨dx, ho⟩, hcall⟩ := h₁
  simp only [hp, List.any_nil, Bool.or_false]
  refine wpAny_bind (m := keeperOf (.ref q)) ?_
  unfold keeperOf
  refine wpAny_bind (wpAny_load ho ?_)
  have e1 : ((Value.ref C) != Value.type "method") = true := by
    rw [bne_iff_ne]
    intro e
    cases e
  have e2 : (Value.ref C == Value.type "builtin_function_or_method" || Value.ref C == Value.type "method-wrapper") = false := by
    rw [Bool.or_eq_false_iff, beq_eq_false_iff_ne, beq_eq_false_iff_ne]
    exact ⟨fun e => (by cases e), fun e => (by cases e)⟩
  simp only [instObj, e1, e2, if_true, Bool.false_eq_true, if_false]
  refine wpAny_pure ?_
  refine wpAny_bind (wpAny_operate' (wpAny_mono hcall (fun r s₂ hr => wpAny_bind (wpAny_holding (wpAny_point (wpAny_pure hr)))) fun _ _ x => x))
theorem codeAny_inst {us : List Value} {kw : List (Str × Value)} {R : Result → Shared → Prop} {od : Option Obj} {of : Obj} {fd : FuncData} (X : K.In s.heap) (I : InstAt s.heap q (instObj C dx) C od)
    (hs : findIn K (.ref C) "__call__" = some (some (.ref f))) (hf : isFn K (.ref f) = true) (ho : s.heap.get? f = some of) (hd : of.data = .func fd)
    (h : codeAny (model prog w) A (.call (.ref f) ⟨.ref q :: us, kw⟩) R s) : codeAny (model prog w) A (.call (.ref q) ⟨us, kw⟩) R s := by
  have e2 : (Value.ref C == Value.type "method" || Value.ref C == Value.type "builtin_function_or_method" || Value.ref C == Value.type "method-wrapper") = false := by
    rw [Bool.or_eq_false_iff, Bool.or_eq_false_iff, beq_eq_false_iff_ne, beq_eq_false_iff_ne, beq_eq_false_iff_ne]
    exact ⟨⟨fun e => (by cases e), fun e => (by cases e)⟩, fun e => (by cases e)⟩
  refine codeAny_of_tree ?_
  show wpAny _ _ (callAny (.ref q) ⟨us, kw⟩) _ _ s
  unfold callAny
  refine wpAny_bind (wpAny_load I.at_ ?_)
  simp only [instObj, e2, Bool.false_eq_true, if_false]
  unfold callAny.viaDunder
  refine wpAny_bind (wpAny_bind (I.type.here ((looks_findIn X hs).here ?_)))
  refine wpAny_bind ((bind_fn X _ (beq_iff_eq.mp hf)).here ?_)
  unfold callAny.plainCallee
  refine wpAny_bind (wpAny_bind (wpAny_load ho ?_))
  rw [hd]
  refine wpAny_pure ?_
  exact wpAny_pure ⟨rfl, h⟩
end
structure CallM (K : PySem.W.Frag) (c : Str) (f : Addr) : Prop where
  at_ : PySem.W.findIn K (.ref (He.ga K c)) "__call__" = some (some (.ref f))
  fn : PySem.W.isFn K (.ref f) = true
  fi : PySem.W.fnIn K f = true
def ckCallM (c : Str) : Ck := fun K => He.eqO (PySem.W.findIn K (.ref (He.ga K c)) "__call__") (some (some (.ref (He.ma K (He.ga K c) "__call__")))) && (PySem.W.isFn K (.ref (He.ma K (He.ga K c) "__call__")) && PySem.W.fnIn K (He.ma K (He.ga K c) "__call__"))
theorem ckCallM_ok {K : PySem.W.Frag} {c : Str} (h : ckCallM c K = true) : CallM K c (He.ma K (He.ga K c) "__call__") := by
  unfold ckCallM at h
  rw [Bool.and_eq_true, Bool.and_eq_true] at h
  exact ⟨He.eqO_ok h.1, h.2.1, h.2.2⟩
section
variable {X : Cx} {e : Expr} {es : List Expr} {c : Str} {p pos : Pos} {x : Str} {de : DE} {d : DA} {k n : Nat} {f : Addr} {gz : List Vl → List Vl → List Vl} {g : FD}
/-- the receiver is an instance of c, before the arguments and behind them -/
def dICall (c : Str) (n : Nat) (gz : List Vl → List Vl → List Vl) (g : FD) (de : DE) (d : DA) : DE := fun env m => bindR (de env m) fun x m => match insD m x with
  | some (c', _) => if c' = c then bindR (d env m) fun xs m => (match insD m x with
    | some (c2, _) => if c2 = c ∧ xs.length = n then g (gz (x :: xs) []) m else none
    | none => none) else none
  | none => none
theorem se_icall (B : CallM X.K c f) (F : Fz X.prog X.w X.K X.mg X.base k f (n + 1) [] gz g) (hr : Room k X.A) (hv : SE X (.Name x p) de) (ha : SA X (e :: es) d)
    (he : starEach (e :: es) X.env = (false, eval e X.env) :: starEach es X.env := by rfl) (hpl : (backTo pos (starEach es X.env)).any (·.1) = false := by rfl) : SE X (.Call (.Name x p) (e :: es) [] pos) (dICall c n gz g de d) := ⟨fun W tk => ⟨fun pins s σ H Q I h => by
  obtain ⟨ρ, env, m, z, m', st, ee, pp⟩ := h
  have h' : rdE X.K W de σ H (fun v H1 => ∃ q, v = .ref q ∧ rdA X.K W d σ H1 fun vs H2 => ∃ dx gs ρ' m1 xv xs, H2 q = some (.ins (He.ga X.K c) dx gs) ∧ RM X.K ρ' m1 H2 ∧ RV X.K ρ' H2 xv v ∧ RVs X.K ρ' H2 xs vs ∧ xs.length = n ∧ g (gz (xv :: xs) []) m1 = some (z, m') ∧ Po X.K ρ' H2 (RV X.K) (fun c dd H' => W c dd σ H') Q z m') :=
    bindE st ee pp fun x m1 ρ1 H1 v s1 E1 r1 e1 p1 => by
      split at e1
      · rename_i c' fs hi
        split at e1
        · rename_i hc'
          subst hc'
          obtain ⟨q, dx, gs, rfl, h3, h4⟩ := insD_ok s1.mem r1 hi
          refine ⟨q, rfl, bindA s1 e1 p1 fun xs m2 ρ2 H2 vs s2 E2 r2 e2 p2 => ?_⟩
          split at e2
          · rename_i c2 fs2 hi2
            split at e2
            · rename_i hc
              obtain ⟨rfl, hn⟩ := hc
              obtain ⟨q', dx', gs', eq, h5, h6⟩ := insD_ok s2.mem (r1.mono E2) hi2
              cases eq
              exact ⟨dx', gs', ρ2, m2, x, xs, h5, s2.mem, r1.mono E2, r2, hn, e2, p2⟩
            · cases e2
          · cases e2
        · cases e1
      · cases e1
  refine wpAny_Call_Name_kw (thn ((hv.run W tk).run pins s σ H _ I h') fun u s1 ⟨v, H1, I1, rx, q, ev, q1⟩ => ?_)
  subst ev
  obtain rfl : u = Value.ref q := rx
  show wpAny _ _ (callWith pos (.ref q) [] (backTo pos (starEach (e :: es) X.env)) []) _ _ _
  rw [he]
  have hp : ((backTo pos ((false, eval e X.env) :: starEach es X.env)).any (·.1)) = false := by
    show (false || (backTo pos (starEach es X.env)).any (·.1)) = false
    rw [hpl]
    rfl
  have run := (ha.run W tk).run pos pins s1 σ _ _ I1 q1
  rw [he] at run
  refine callWith_inst (C := He.ga X.K c) hp (PySem.Calls.evalArgs_plain (thn run fun us s2 ⟨vs, H2, I2, r, dx, gs, ρ2, m2, xv, xs, hq, M2, rxv, rxs, hn, eg, p2⟩ => ?_))
  obtain ⟨mA, Oa, _⟩ := ins_get I2.hok hq
  obtain ⟨od, J, _⟩ := Oa.look
  refine ⟨⟨dx, Oa.obj⟩, ?_⟩
  obtain ⟨of, fd0, ho, hd⟩ : ∃ (of : Obj) (fd : FuncData), s2.heap.get? f = some of ∧ of.data = .func fd := by
    have hfi := B.fi
    unfold PySem.W.fnIn at hfi
    split at hfi
    · rename_i e
      exact ⟨_, _, I2.kIn _ _ e, rfl⟩
    · cases hfi
  obtain ⟨fd, ps, gs', gV, h1, h2, h3⟩ := F.ex
  obtain ⟨hl, rg⟩ := h3 ρ2 H2 (xv :: xs) (.ref q :: vs) [] [] (by rw [List.length_cons, hn]) rfl ⟨_, _, rfl, rxv, rxs⟩ rfl
  have r1 : Vals (V.ref q :: vs) (Value.ref q :: us) := .cons rfl r
  have r2 := h2.rel r1 (.nil : Vals [] [])
  show wpAny _ _ (call (.ref q) us []) _ _ _
  refine wpAny_call (codeAny_inst I2.kIn J B.at_ B.fn ho hd (codeAny_mono (h1.run X.A X.stack s2 H2 ⟨.ref q :: us, []⟩ (gs' (.ref q :: us) []) (gV (.ref q :: vs) []) Q (fun c dd H' => W c dd σ H') hr I2.env0 (h2.to s2 (.ref q :: us) [] I2.kIn (by rw [List.length_cons, ← r.length, ← rxs.length, hn]) rfl) r2 ⟨hl, ρ2, m2, _, z, m', M2, rg, eg, p2⟩) fun rr s' hq' => ?_))
  cases rr with
  | error er => exact tk.call I2 (fun _ _ _ h => h) hq'
  | ok fl =>
    cases fl with
    | ret w => exact I2.after hq'
    | next => exact False.elim hq'
    | brk => exact False.elim hq'
    | cont => exact False.elim hq'⟩⟩
end
end Z
namespace Z
open PySem PySem.Spec PyProof.Rows L2
variable [Kd]
/-! ### t[lo:hi] of a tuple, the whole of it too -/
def slA (x : Vl) (lo hi : Option Int) (m : Mem) : Option (Vl × Mem) := match x with
  | .tup xs => some (.tup (cutZ xs lo hi), m)
  | _ => none
theorem cutZ_whole {xs : List Vl} {lo hi : Option Int} (h : HT.sIx xs.length 0 lo = 0 ∧ HT.sIx xs.length xs.length hi = xs.length) : cutZ xs lo hi = xs := by
  unfold cutZ
  rw [h.1, h.2]
  simp
theorem slA_ok {K : PySem.W.Frag} {ρ : Lay} {m : Mem} {H : Hp} {x : Vl} {v : V} {lo hi : Option Int} {z : Vl} {m' : Mem} {Q : VK} (M : RM K ρ m H) (a : RV K ρ H x v) (e : slA x lo hi m = some (z, m'))
    (k : ∀ ρ' H' w, RM K ρ' m' H' → Ext ρ H ρ' H' → RV K ρ' H' z w → Q w H') : rSlA K v lo hi H Q := by
  unfold slA at e
  split at e
  · rename_i xs
    cases e
    have a0 := a
    obtain ⟨p, vs, rfl, h1, h2⟩ := a
    refine ⟨p, vs, rfl, h1.sq, fun hw => ?_, fun hw n hn => k ρ _ _ (M.laid hn) (ext_new hn) (new_tup M hn h2.cut)⟩
    rw [← h2.length] at hw
    refine k ρ H _ M .refl ?_
    rw [cutZ_whole hw]
    exact a0
  · cases e
def dSlA (da : DE) (lo hi : DO) : DE := fun env m => bindR (da env m) fun x m => bindR (lo env m) fun l m => bindR (hi env m) fun h m => okR (slA x l h m)
section
variable {X : Cx} {a b : Expr} {pos : Pos} {da db : DE}
theorem se_sliceA {lo hi : Option Expr} {p2 : Pos} {dl dh : DO} (ha : SE X a da) (hl : SO X lo dl) (hh : SO X hi dh) : SE X (.Subscript a (.Slice lo hi none p2) pos) (dSlA da dl dh) := ⟨fun W tk =>
  impPE (pe_slice sl_tupA (ha.run W tk) (hl.run W tk) (hh.run W tk)) fun σ H Q ⟨ρ, env, m, z, m', s, e, p⟩ =>
    bindE s e p fun x m1 ρ1 H1 v s1 E1 r1 e1 p1 => bindO s1 e1 p1 fun l m2 ρ2 H2 s2 E2 e2 p2 => bindO s2 e2 p2 fun h m3 ρ3 H3 s3 E3 e3 p3 => by
      obtain ⟨w, h1, rfl⟩ := okR_some e3
      exact slA_ok s3.mem (r1.mono (E2.trans E3)) h1 fun ρ' H' u' M E r => p3 ρ' H' M E u' r⟩
/-! t + u of tuples, empty ones too -/
def catT : F2 := fun x y m => match x, y with
  | .tup a, .tup b => if a.length + b.length ≤ sizeLine then some (.tup (a ++ b), m) else none
  | _, _ => none
theorem sf_catT {K : PySem.W.Frag} : SF2 K catT (rCatA K) := fun ρ m H x y v u z m' Q M ra rb e k => by
  unfold catT at e
  split at e
  · rename_i xs ys
    split at e
    · rename_i hz
      cases e
      have ra0 := ra
      have rb0 := rb
      obtain ⟨p, vs, rfl, h1, h2⟩ := ra
      obtain ⟨q, ws, rfl, h3, h4⟩ := rb
      refine ⟨p, q, vs, ws, rfl, rfl, h1.sq, h3.sq, by rw [← h2.length, ← h4.length]; exact hz, fun hv => ?_, fun hv hw => ?_, fun hv hw n hn => k ρ _ _ (M.laid hn) (ext_new hn) (new_tup M hn (h2.append h4))⟩
      · have : xs = [] := h2.nil_iff.mpr hv
        subst this
        exact k ρ H _ M .refl rb0
      · have : ys = [] := h4.nil_iff.mpr hw
        subst this
        refine k ρ H _ M .refl ?_
        rw [List.append_nil]
        exact ra0
    · cases e
  · cases e
theorem se_catT (ha : SE X a da) (hb : SE X b db) : SE X (.BinOp a .Add b pos) (d2 catT da db) := se_2 op_catA sf_catT ha hb
end
theorem catT_tup {a b : List Vl} {m : Mem} (h : a.length + b.length ≤ sizeLine) : catT (.tup a) (.tup b) m = some (.tup (a ++ b), m) := by
  show (if a.length + b.length ≤ sizeLine then some (Vl.tup (a ++ b), m) else none) = _
  rw [if_pos h]
@[simp] theorem dSlA_ap {da : DE} {lo hi : DO} {env : Ev} {m : Mem} : dSlA da lo hi env m = bindR (da env m) fun x m => bindR (lo env m) fun l m => bindR (hi env m) fun h m => okR (slA x l h m) := rfl
@[simp] theorem slA_tup {xs : List Vl} {lo hi : Option Int} {m : Mem} : slA (.tup xs) lo hi m = some (.tup (cutZ xs lo hi), m) := rfl
end Z
namespace Z
open PySem PySem.Spec PyProof.Rows L2
variable [Kd]
/-! ### enumerate of a tuple -/
theorem meets_enum_one {v : Value} {o : Obj} {G : Heap → Prop} (B : Begins v o G) :
    Meets (Builtin.«enumerate.__new__» ⟨[.type "enumerate", v], []⟩) (fun _ R s => G s.heap ∧
      R (.ok (.ret (.ref (s.heap.push o).objs.size))) { s with heap := (s.heap.push o).push { cls := .type "enumerate", data := .fields #[.none, .bool false, .ref s.heap.objs.size, rawInt 0, .none, .none] } }) :=
  .of_wp fun prog w A R s h => by
    obtain ⟨hp, g, d, tk, os⟩ := s
    obtain ⟨h1, h⟩ := h
    have hsub := sub_enumerate
    have it1 : ∀ {A' : Around} {E : Value → Shared → Prop} {Q : Value → Shared → Prop}, Q (.ref hp.objs.size) ⟨hp.push o, g, d, tk, os⟩ → wpAny (model prog w) A' (pyIter v) Q E ⟨hp, g, d, tk, os⟩ :=
      fun q => B.iter prog w _ _ ⟨hp, g, d, tk, os⟩ _ h1 q
    wp_walk using it1
    refine wpAny_stack_any fun st => wpAny_pure ?_
    split
    · rename_i c _ _ _ _ _
      cases (c == Value.type "enumerate") <;>
      · wp_walk using it1
        exact ⟨_, rfl, h⟩
    · wp_walk using it1
      exact ⟨_, rfl, h⟩
section
variable {prog : Program} {w : World} {A : Around} {E : Value → Shared → Prop} {s : Shared}
theorem enum_one {v : Value} {o : Obj} {G : Heap → Prop} {Q : Value → Shared → Prop} (B : Begins v o G) (h1 : G s.heap)
    (h : ∀ h', IsEnum h' (s.heap.objs.size + 1) s.heap.objs.size 0 .none → h'.get? s.heap.objs.size = some o →
      (∀ b o, s.heap.get? b = some o → h'.get? b = some o) → Q (.ref (s.heap.objs.size + 1)) { s with heap := h' }) :
    wpAny (model prog w) A (call (.type "enumerate") [v]) Q E s := by
  refine callType_new F.called_enumerate (by decide) (F.typeCall_enumerate_1 _) (F.newCall_enumerate_1 _)
    (fun obj => F.args_object_init_2 obj _) F.entry_enumerate_new (meets_enum_one B) ⟨h1, ?_⟩
  have hz : (s.heap.push o).objs.size = s.heap.objs.size + 1 := Heap.size_push ..
  show _ ∧ _
  rw [hz]
  have he : IsEnum ((s.heap.push o).push { cls := .type "enumerate", data := .fields #[.none, .bool false, .ref s.heap.objs.size, rawInt 0, .none, .none] }) (s.heap.objs.size + 1) s.heap.objs.size 0 .none := by
    have q := Heap.get?_push_size (s.heap.push o) (o := { cls := .type "enumerate", data := .fields #[.none, .bool false, .ref s.heap.objs.size, rawInt 0, .none, .none] }) rfl
    rw [hz] at q
    exact q
  exact ⟨⟨_, he, rfl⟩, h _ he (Heap.get?_push_of_some _ (Heap.get?_push_size _ B.free)) fun b o x => Heap.get?_push_of_some _ (Heap.get?_push_of_some _ x)⟩
theorem enum_tup_end {e it t : Addr} {items : Array Value} {j : Nat} {i : Int} {old : Value} {Q : Option Value → Shared → Prop}
    (hh : A.in1.handled = none) (he : IsEnum s.heap e it i old) (hit : s.heap.IsTupleIter it t j) (ht : s.heap.IsTuple t items) (hj : items[j]? = none)
    (hQ : ∀ h', Heap.ExtBut it s.heap h' → Q none { s with heap := h' }) : wpAny (model prog w) A (pyNext (.ref e)) Q E s := by
  have hTe : s.TypeIs (.ref e) "enumerate" := ⟨_, he, rfl⟩
  unfold pyNext
  refine wpAny_bind (wpAny_attempt (wpAny_callSpecial?_slot (name := Str.ofString "__next__") hTe F.slot_enumerate_next (wpAny_call_entry F.slot_enumerate_next hTe F.entry_enumerate_next ?_ (F.args_enumerate_next_1 _))))
  show wpAny (model prog w) _ (field (.ref e) 2 >>= _) _ _ _
  refine wpAny_bind (wpAny_field he rfl (x := .ref it) rfl (wpAny_bind (wpAny_nextOf_tuple_end hh hit ht hj fun h' x ext hx' => ?_)))
  obtain ⟨o, ho, hc⟩ := hx'
  exact wpAny_bind (wpAny_isInstance (T := "StopIteration") (b := true) ⟨o, ho, hc⟩ isSubtype_stop (wpAny_pure (hQ _ ext)))
end
/-- a tuple's items, each in a new pair -/
def IteT (K : PySem.W.Frag) (a : Addr) : It :=
  ⟨fun i H => ∃ (xs : List V) (x : V), SqT K H a xs ∧ xs[i]? = some x,
    fun i H v H' => ∃ T x, v = .ref T ∧ H T = none ∧ H' = upd H T (.tup [.int (i : Nat), x]) ∧ ∀ xs, SqT K H a xs → xs[i]? = some x,
    fun i H => ∃ xs : List V, SqT K H a xs ∧ xs.length ≤ i⟩
theorem turn_enumT {P : Program} {w : World} {K : PySem.W.Frag} {elts : List Expr} {kk : Nat} {tpos : Pos} (a e it : Addr) :
    Turn P w K (.Tuple elts kk tpos) (IteT K a) [e, it] e (fun i h => (∃ old, IsEnum h e it ((i : Nat) : Int) old) ∧ h.IsTupleIter it a i ∧ e ≠ it ∧ e ≠ a ∧ a ≠ it) where
  mem := by simp
  obj := fun i h st b hb => by
    obtain ⟨⟨old, he⟩, ⟨o, ho, hc, hd⟩, _⟩ := st
    rcases (show b = e ∨ b = it by simpa using hb) with z | z
    · rw [z]
      exact ⟨_, he, fun v q => nomatch q⟩
    · rw [z]
      exact ⟨o, ho, fun v q => by rw [hd] at q; cases q⟩
  keep := fun i h h' st k => by
    obtain ⟨⟨old, he⟩, hi, hne⟩ := st
    exact ⟨⟨old, k e (by simp) _ he⟩, hi.at fun o q => k it (by simp) o q, hne⟩
  item := by
    intro X hP hw hK hc i pins s σ H E I hf st hg
    subst hP hw hK
    obtain ⟨⟨old, he⟩, hit, hne, hea, hai⟩ := st
    obtain ⟨xs, x, hq, hx⟩ := hg
    obtain ⟨its, rv, p, hz⟩ := I.tuple hq
    obtain ⟨u, hu, ru⟩ := rv.get hx
    have hel : e < s.heap.objs.size := Heap.lt_size he
    have hil : it < s.heap.objs.size := by
      obtain ⟨_, q, _⟩ := hit
      exact Heap.lt_size q
    have hh : X.A.in1.handled = none := I.ok.hd hc
    have hlt : i < its.toArray.size := by
      rw [List.size_toArray]
      exact getlt hu
    refine wpAny_pyNext_enum_itemD (Draws.tuple hh it a hai its.toArray) he ⟨hit, p⟩ hlt hne (by simp [hne, hea]) fun y h' tk hy ho hs' hT hsz hk => ?_
    obtain rfl : y = u := by
      have e1 : its.toArray[i]? = some u := by simpa using hu
      rw [e1] at hy
      cases hy
      rfl
    refine ⟨_, rfl, wpAny_letOwnedTupleGo_enum (s := { s with heap := h', toks := tk + 1 }) ho fun h'' he' sb => ?_⟩
    have hT2 : h''.get? s.heap.objs.size = some { cls := .type "tuple", data := .seq #[.int i tk, y] } := (sb.2 _ (Nat.ne_of_gt hel)).trans hT
    have new : ObjOk X.prog X.w (upd H s.heap.objs.size (.tup [.int (i : Nat), x])) h'' s.heap.objs.size (.tup [.int (i : Nat), x]) :=
      ⟨by show 2 ≤ sizeLine; decide, [.int i tk, y], .cons ⟨_, rfl⟩ (.cons ru .nil), ⟨_, hT2, rfl, _, rfl⟩⟩
    have I1 : Inv X pins σ (upd H s.heap.objs.size (.tup [.int (i : Nat), x])) { s with heap := h'', toks := tk + 1 } :=
      I.turnedNew (ch := [e, it]) (fun b ob hb q => (sb.2 b (fun z => hb (by simp [z]))).trans (hk b ob (fun z => hb (by simp [z])) (fun z => hb (by simp [z])) q)) hf (Nat.le_refl _) new
    refine ⟨.ref s.heap.objs.size, _, I1, rfl, ⟨_, x, rfl, I.hok.fresh (Nat.le_refl _), rfl, fun ys hy => by rw [I.tuple_inj hy hq]; exact hx⟩, ⟨⟨y, ?_⟩, hs'.1.at fun o q => (sb.2 it (Ne.symm hne)).trans q, hne, hea, hai⟩, fun b hb => ?_⟩
    · have e1 : ((i + 1 : Nat) : Int) = (i : Int) + 1 := by omega
      rw [e1]
      exact he'
    · have hb' : b < s.heap.objs.size := by
        rcases (show b = e ∨ b = it by simpa using hb) with z | z
        · rw [z]
          exact hel
        · rw [z]
          exact hil
      rw [upd_ne (Nat.ne_of_lt hb')]
      exact (hf b hb).1
  done := by
    intro X hP hw hK hc i pins s σ H E I hf st hg
    subst hP hw hK
    obtain ⟨⟨old, he⟩, hit, hne, hea, hai⟩ := st
    obtain ⟨xs, hq, hx⟩ := hg
    obtain ⟨its, rv, p, hz⟩ := I.tuple hq
    obtain ⟨f0, f1, f2, f3, f4, f5⟩ := hf it (by simp)
    have hl := rv.length
    exact enum_tup_end (I.ok.hd hc) he hit p (by simp; omega) fun h' eb => ⟨rfl, I.turned (t' := s.toks) (fun b o hb q => eb b o hb q) f0 f1 f3 f4 f5⟩
  self := fun A i s Q E st h => let ⟨⟨_, he⟩, _⟩ := st; wpAny_pyIter_enum he h
section
variable {X : Cx} {e : Expr} {p pos tpos : Pos} {elts : List Expr} {kk : Nat}
def iEnumT (K : PySem.W.Frag) (ta : TA) : TI := fun σ H R => ta σ H fun vs H1 => ∃ a xs, vs = [.ref a] ∧ SqT K H1 a xs ∧ R (IteT K a) H1
theorem pi_enumT {ta : TA} (hg : Gl X "enumerate") (hm : X.mg "enumerate" = none) (ha : PA X [e] ta) (hs : starEach [e] X.env = [(false, eval e X.env)] := by rfl) :
    PI X (.Tuple elts kk tpos) (.Call (.Name "enumerate" p) [e] [] pos) (iEnumT X.K ta) := by
  refine ⟨fun pins s σ H R I h => ?_⟩
  refine Call_ (ld_blt I hg hm boot_enumerate (PyProof.Rows.callWith_type1 (thn (ha.run pos pins s σ H _ I h) fun us s1 ⟨vs, H1, I1, r1, q1⟩ => ?_) hs rfl))
  obtain ⟨a, xs, ex, hq, q⟩ := q1
  subst ex
  cases r1 with
  | cons r rr =>
    cases rr
    cases r
    obtain ⟨its, rv, pt, hz⟩ := I1.tuple hq
    have hal : a < s1.heap.objs.size := by
      obtain ⟨o, ho, _⟩ := pt
      exact Heap.lt_size ho
    refine enum_one (begins_tuple a its.toArray) pt fun h' he hit hk => wpAny_pyIter_enum he ?_
    have I2 : Inv X pins σ H1 { s1 with heap := h' } := I1.kept (t' := s1.toks) hk
    refine ⟨s1.heap.objs.size + 1, [s1.heap.objs.size + 1, s1.heap.objs.size], _, _, H1, rfl, I2, turn_enumT a (s1.heap.objs.size + 1) s1.heap.objs.size, ⟨⟨.none, he⟩, ⟨_, hit, rfl, rfl⟩, Nat.succ_ne_self _, (Nat.ne_of_gt (Nat.lt_succ_of_lt hal)), Nat.ne_of_lt hal⟩, fun b hb => ?_, q⟩
    have hle : s1.heap.objs.size ≤ b := by
      rcases (show b = s1.heap.objs.size + 1 ∨ b = s1.heap.objs.size by simpa using hb) with z | z
      · rw [z]
        exact Nat.le_add_right _ _
      · rw [z]
        exact Nat.le_refl _
    exact I1.fpOk hle (I1.hok.fresh hle)
theorem itOk_enumT {K : PySem.W.Frag} {ρ0 : Lay} {H0 : Hp} {a : Addr} {vs : List V} {xs : List Vl} (h : ∀ ρ H, Ext ρ0 H0 ρ H → SqT K H a vs) (r : RVs K ρ0 H0 xs vs) : ItOk K (IteT K a) ρ0 H0 (enumZ xs) := fun i ρ m H E M => by
  refine ⟨fun y hy => ?_, fun hl => ⟨vs, h ρ H E, by rw [← r.length, ← enumZ_len (xs := xs)]; exact hl⟩⟩
  obtain ⟨x, hx, rfl⟩ := enumZ_get hy
  obtain ⟨v, h1, h2⟩ := r.get hx
  refine ⟨⟨vs, v, h ρ H E, h1⟩, fun w H' q => ?_⟩
  obtain ⟨T, u, rfl, hT, rfl, q2⟩ := q
  have q3 := q2 vs (h ρ _ E)
  rw [h1] at q3
  cases q3
  exact ⟨M.laid hT, ext_new hT, new_tup M hT ⟨_, _, rfl, rfl, _, _, rfl, h2.mono E, rfl⟩⟩
def iEnmT (d : DA) : DA := fun env m => bindR (d env m) fun xs m => match xs with
  | [.tup ys] => some (.ok (enumZ ys), m)
  | _ => none
theorem si_enumT {d : DA} (hg : Gl X "enumerate") (hm : X.mg "enumerate" = none) (ha : SA X [e] d) (hs : starEach [e] X.env = [(false, eval e X.env)] := by rfl) :
    SI X (.Tuple elts kk tpos) (.Call (.Name "enumerate" p) [e] [] pos) (iEnmT d) := ⟨fun W tk => impPI (pi_enumT hg hm (ha.run W tk) hs) fun σ H R h =>
  rdI_A (Q := fun vs H1 => ∃ a xs, vs = [.ref a] ∧ SqT X.K H1 a xs ∧ R (IteT X.K a) H1) h (fun x m1 ρ env xs v H1 s r e k => by
    split at e
    · rename_i ys
      cases e
      obtain ⟨w, vs, rfl, r1, r2⟩ := r
      subst r2
      obtain ⟨q, vs, rfl, h1, h2⟩ := r1
      exact ⟨q, vs, rfl, h1.sq, k _ (itOk_enumT (fun ρ' H' E => (h1.mono E).sq) h2)⟩
    · cases e) fun x m r m' e => by
    split at e
    · cases e
      exact ⟨⟨_, rfl⟩, rfl⟩
    · cases e⟩
end
@[simp] theorem iEnmT_ap {d : DA} {env : Ev} {m : Mem} : iEnmT d env m = bindR (d env m) fun xs m => match xs with
  | [.tup ys] => some (.ok (enumZ ys), m)
  | _ => none := rfl
end Z
namespace Z
open PySem PySem.Spec PyProof.Rows L2
variable [Kd]
/-! ### while: so many turns at most -/
def whileL (t : DT) (b : DS) : Nat → DS
  | 0 => fun _ _ => none
  | k + 1 => fun env m => bindS (t env m) env fun x m => if x = true then (match b env m with
    | some (.nx env2, m2) => whileL t b k env2 m2
    | some (.ct env2, m2) => whileL t b k env2 m2
    | some (.bk env2, m2) => some (.nx env2, m2)
    | r => r) else some (.nx env, m)
def dWhile (n : Nat) (t : DT) (b : DS) : DS := whileL t b n
theorem ss_while {X : Cx} {c : Expr} {body : List Stmt} {pos : Pos} {n : Nat} {t : DT} {b : DS} (hp : PassesOwn (model X.prog X.w) X.A X.env X.xe) (hc : ST X c t) (hb : SSs X body b) : SS X (.While c body [] pos) (dWhile n t b) := ⟨fun W tk =>
  impPS (ps_while hp (hc.run W tk) (hb.run W tk)) fun D σ H ⟨ρ, env, m, f, m', s, e, p⟩ => by
    refine ⟨fun k σ1 H1 => ∃ ρ1 env1 m1, S X.K ρ1 env1 m1 σ1 H1 ∧ whileL t b k env1 m1 = some (f, m') ∧ PoS X.K ρ1 H1 W D f m', ⟨n, ρ, env, m, s, e, p⟩, ?_⟩
    rintro k σ1 H1 ⟨ρ1, env1, m1, s1, e1, p1⟩
    cases k with
    | zero => cases e1
    | succ k =>
      refine sbT s1 e1 p1 fun x m2 ρ2 H2 s2 E2 e2 p2 => ?_
      cases x with
      | false =>
        rw [if_neg (by decide)] at e2 ⊢
        cases e2
        exact p2 ρ2 H2 s2.mem .refl _ s2.env
      | true =>
        rw [if_pos rfl] at e2 ⊢
        refine ⟨fun σ3 H3 => ∃ ρ3 env3 m3, S X.K ρ3 env3 m3 σ3 H3 ∧ whileL t b k env3 m3 = some (f, m') ∧ PoS X.K ρ3 H3 W D f m', fun σ3 H3 h => ⟨k, Nat.lt_succ_self k, h⟩, ?_⟩
        split at e2
        · rename_i env2 m3 hb'
          exact ⟨ρ2, env1, m2, _, _, s2, hb', fun ρ4 H4 M4 E4 σ4 r4 => ⟨ρ4, env2, m3, ⟨M4, r4⟩, e2, p2.mono E4⟩⟩
        · rename_i env2 m3 hb'
          exact ⟨ρ2, env1, m2, _, _, s2, hb', fun ρ4 H4 M4 E4 σ4 r4 => ⟨ρ4, env2, m3, ⟨M4, r4⟩, e2, p2.mono E4⟩⟩
        · rename_i env2 m3 hb'
          cases e2
          exact ⟨ρ2, env1, m2, _, _, s2, hb', fun ρ4 H4 M4 E4 σ4 r4 => p2 ρ4 H4 M4 E4 σ4 r4⟩
        · rename_i r0 n1 n2 n3
          refine ⟨ρ2, env1, m2, f, m', s2, e2, fun ρ4 H4 M4 E4 => ?_⟩
          have pp := p2 ρ4 H4 M4 E4
          cases f with
          | rt v => exact pp
          | ex c fs env2 => exact pp
          | nx env2 => exact absurd e2 (n1 env2 m')
          | ct env2 => exact absurd e2 (n2 env2 m')
          | bk env2 => exact absurd e2 (n3 env2 m')⟩
theorem whileL_t {t : DT} {b : DS} {k : Nat} {env env2 : Ev} {m m1 m2 : Mem} (h1 : t env m = some (.ok true, m1)) (h2 : b env m1 = some (.nx env2, m2)) : whileL t b (k + 1) env m = whileL t b k env2 m2 := by
  show bindS (t env m) env _ = _
  rw [h1]
  simp only [bindS_ok, if_true, h2]
theorem whileL_f {t : DT} {b : DS} {k : Nat} {env : Ev} {m m1 : Mem} (h1 : t env m = some (.ok false, m1)) : whileL t b (k + 1) env m = some (.nx env, m1) := by
  show bindS (t env m) env _ = _
  rw [h1]
  simp
/-! ### dicts: keys ints and texts, or tuples of them -/
def lookZ {κ : Type} [DecidableEq κ] (ks : List (κ × Vl)) (k : κ) : Option Vl := (ks.find? fun p => decide (p.1 = k)).map (·.2)
def putZ {κ : Type} [DecidableEq κ] (ks : List (κ × Vl)) (k : κ) (v : Vl) : List (κ × Vl) := if ks.any (fun p => decide (p.1 = k)) then ks.map fun p => if p.1 = k then (p.1, v) else p else ks ++ [(k, v)]
def keyD : Vl → Option Key
  | .int i => some (.inl i)
  | .str x => some (.inr x)
  | _ => none
def keysD : Vl → Option (List Key)
  | .tup xs => mapO keyD xs
  | _ => none
section
variable {K : PySem.W.Frag} {ρ : Lay} {H : Hp}
theorem rks_val : ∀ {ks : List (Key × Vl)} {vs : List (Key × V)} (k : Key), RKs K ρ H ks vs → (lookZ ks k = none ∧ valV vs k = none) ∨ ∃ x v, lookZ ks k = some x ∧ valV vs k = some v ∧ RV K ρ H x v
  | [], vs, k, h => by
    obtain rfl : vs = [] := h
    exact .inl ⟨rfl, rfl⟩
  | (j, x) :: ks, vs, k, ⟨v, r, e, h1, h2⟩ => by
    subst e
    by_cases q : j = k
    · exact .inr ⟨x, v, by simp [lookZ, q], by simp [valV, q], h1⟩
    · have ih := rks_val k h2
      have e1 : lookZ ((j, x) :: ks) k = lookZ ks k := by simp [lookZ, List.find?_cons, q]
      have e2 : valV ((j, v) :: r) k = valV r k := by simp [valV, List.find?_cons, q]
      rw [e1, e2]
      exact ih
theorem rks_any : ∀ {ks : List (Key × Vl)} {vs : List (Key × V)} (k : Key), RKs K ρ H ks vs → (ks.any fun p => decide (p.1 = k)) = vs.any fun p => decide (p.1 = k)
  | [], vs, k, h => by
    obtain rfl : vs = [] := h
    rfl
  | (j, x) :: ks, vs, k, ⟨v, r, e, h1, h2⟩ => by
    subst e
    rw [List.any_cons, List.any_cons, rks_any k h2]
theorem rks_app : ∀ {ks js : List (Key × Vl)} {vs ws : List (Key × V)}, RKs K ρ H ks vs → RKs K ρ H js ws → RKs K ρ H (ks ++ js) (vs ++ ws)
  | [], js, vs, ws, h, g => by
    obtain rfl : vs = [] := h
    exact g
  | (j, x) :: ks, js, vs, ws, ⟨v, r, e, h1, h2⟩, g => by
    subst e
    exact ⟨v, r ++ ws, rfl, h1, rks_app h2 g⟩
theorem rks_map1 {k : Key} {y : Vl} {w : V} (q : RV K ρ H y w) : ∀ {ks : List (Key × Vl)} {vs : List (Key × V)}, RKs K ρ H ks vs → RKs K ρ H (ks.map fun p => if p.1 = k then (p.1, y) else p) (vs.map fun p => if p.1 = k then (p.1, w) else p)
  | [], vs, h => by
    obtain rfl : vs = [] := h
    exact rfl
  | (j, x) :: ks, vs, ⟨v, r, e, h1, h2⟩ => by
    subst e
    have ih := rks_map1 (k := k) q h2
    by_cases c : j = k
    · simp only [List.map_cons, c, if_true]
      exact ⟨w, _, rfl, q, ih⟩
    · simp only [List.map_cons, c, if_false]
      exact ⟨v, _, rfl, h1, ih⟩
theorem rks_put {ks : List (Key × Vl)} {vs : List (Key × V)} (k : Key) {y : Vl} {w : V} (h : RKs K ρ H ks vs) (q : RV K ρ H y w) : RKs K ρ H (putZ ks k y) (putK vs k w) := by
  unfold putZ putK
  rw [rks_any k h]
  split
  · exact rks_map1 q h
  · exact rks_app h ⟨w, [], rfl, q, rfl⟩
theorem rks_len : ∀ {ks : List (Key × Vl)} {vs : List (Key × V)}, RKs K ρ H ks vs → ks.length = vs.length
  | [], vs, h => by
    obtain rfl : vs = [] := h
    rfl
  | (j, x) :: ks, vs, ⟨v, r, e, h1, h2⟩ => by
    subst e
    rw [List.length_cons, List.length_cons, rks_len h2]
theorem keyD_ok {x : Vl} {v : V} {k : Key} (h : keyD x = some k) (r : RV K ρ H x v) : v = kV k := by
  cases x <;> cases h <;> exact r
/-- the items of a dict -/
def dicD (m : Mem) : Vl → Option (List (Key × Vl))
  | .dic ks => some ks
  | .obj n => (match m[n]? with
    | some (.dic ks) => some ks
    | _ => none)
  | _ => none
theorem dicD_ok {m : Mem} {x : Vl} {v : V} {ks : List (Key × Vl)} (M : RM K ρ m H) (r : RV K ρ H x v) (h : dicD m x = some ks) : ∃ a vs, v = .ref a ∧ H a = some (.dK vs) ∧ RKs K ρ H ks vs := by
  cases x with
  | dic js =>
    cases h
    obtain ⟨a, vs, rfl, _, h1, h2⟩ := r
    exact ⟨a, vs, rfl, h1, h2⟩
  | obj n =>
    unfold dicD at h
    dsimp only at h
    split at h
    · rename_i js hj
      cases h
      obtain ⟨q, rfl, hq⟩ := r
      obtain ⟨vs, h1, h2⟩ := M.at_ _ _ _ hj hq
      exact ⟨q, vs, rfl, h1, h2⟩
    · cases h
  | _ => cases h
/-- a new cell -/
theorem new_cel {m : Mem} {o : HO} {c : Cell} {p : Addr} (M : RM K ρ m H) (hp : H p = none) (hk : cellK o = true) (hc : RC K ρ (upd H p o) p c) : RM K (ρ.cel p) (m ++ [c]) (upd H p o) ∧ Ext ρ H (ρ.cel p) (upd H p o) ∧ RV K (ρ.cel p) (upd H p o) (.obj m.length) (.ref p) := by
  have M1 := M.laid (o := o) hp
  refine ⟨M1.toCel (M.fresh hp) (M.freshz hp) upd_same hk hc, (ext_new hp).toCel ⟨M.fresh hp, M.freshz hp, hp⟩, p, rfl, ?_⟩
  show (ρ.c ++ [p])[m.length]? = some p
  rw [← M.len]
  simp
end
section
variable {X : Cx} {a b e : Expr} {pos pos' p : Pos} {da db : DE} {d : DA}
/-- {} -/
def dNewK : DE := fun _ m => some (.ok (.obj m.length), m ++ [.dic []])
theorem se_dnew : SE X (.Dict [] [] pos) dNewK := ⟨fun W tk => impPE pe_dnewK fun σ H Q ⟨ρ, env, m, z, m', s, e, pp⟩ => by
  cases e
  intro q hq
  obtain ⟨M, E, r⟩ := new_cel (o := .dK []) (c := .dic []) s.mem hq rfl ⟨[], upd_same, rfl⟩
  exact pp _ _ M E _ r⟩
/-- d[k] -/
def ixK : F2 := fun x y m => match dicD m x, keyD y with
  | some ks, some k => (match lookZ ks k with
    | some v => some (v, m)
    | none => none)
  | _, _ => none
theorem se_dget (hu : X.A.units + 1 < cLine) (ha : SE X a da) (hb : SE X b db) (hs : NoSl b) : SE X (.Subscript a b pos) (d2 ixK da db) := ⟨fun W tk => impPE (pe_dget hu (ha.run W tk) (hb.run W tk) hs) fun σ H Q ⟨ρ, env, m, z, m', s, e, p⟩ =>
  bindE s e p fun x m1 ρ1 H1 v s1 E1 r1 e1 p1 => bindE s1 e1 p1 fun y m2 ρ2 H2 u s2 E2 r2 e2 p2 => by
    obtain ⟨w, h1, rfl⟩ := okR_some e2
    unfold ixK at h1
    split at h1
    · rename_i ks k hk hy
      split at h1
      · rename_i vl hv
        cases h1
        obtain ⟨q, vs, rfl, h3, h4⟩ := dicD_ok s2.mem (r1.mono E2) hk
        rcases rks_val k h4 with ⟨h5, _⟩ | ⟨x', v', h5, h6, h7⟩
        · rw [hv] at h5
          cases h5
        · rw [hv] at h5
          cases h5
          exact ⟨q, v', rfl, .inl ⟨vs, k, .inl h3, keyD_ok hy r2, h6.symm⟩, p2 ρ2 H2 s2.mem .refl _ h7⟩
      · cases h1
    · cases h1⟩
/-- k in d -/
def inK (neg : Bool) : F2 := fun x y m => match keyD x, dicD m y with
  | some k, some ks => some (.bl (if neg then !(lookZ ks k).isSome else (lookZ ks k).isSome), m)
  | _, _ => none
theorem din_of {K : PySem.W.Frag} {ρ : Lay} {m : Mem} {H : Hp} {x y : Vl} {v u : V} {ks : List (Key × Vl)} {k : Key} (M : RM K ρ m H) (r1 : RV K ρ H x v) (r2 : RV K ρ H y u) (hk : keyD x = some k) (hd : dicD m y = some ks) : ∃ a o, u = .ref a ∧ DGet H a v o ∧ o.isSome = (lookZ ks k).isSome := by
  obtain ⟨q, vs, rfl, h3, h4⟩ := dicD_ok M r2 hd
  refine ⟨q, _, rfl, .inl ⟨vs, k, .inl h3, keyD_ok hk r1, rfl⟩, ?_⟩
  rcases rks_val k h4 with ⟨h5, h6⟩ | ⟨x', v', h5, h6, h7⟩ <;> rw [h5, h6] <;> rfl
theorem se_din (hu : X.A.units + 1 < cLine) (ha : SE X a da) (hb : SE X b db) (hm : behindInMarks .In b = false := by rfl) : SE X (.Compare a [.In] [b] pos) (d2 (inK false) da db) := ⟨fun W tk => impPE (pe_cmp (pc_din hu (ha.run W tk) (hb.run W tk)) hm) fun σ H Q ⟨ρ, env, m, z, m', s, e, p⟩ =>
  bindE s e p fun x m1 ρ1 H1 v s1 E1 r1 e1 p1 => bindE s1 e1 p1 fun y m2 ρ2 H2 u s2 E2 r2 e2 p2 => by
    obtain ⟨w, h1, rfl⟩ := okR_some e2
    unfold inK at h1
    split at h1
    · rename_i k ks hk hd
      cases h1
      obtain ⟨q, o, rfl, g, h3⟩ := din_of s2.mem (r1.mono E2) r2 hk hd
      exact ⟨q, o, rfl, g, p2 ρ2 H2 s2.mem .refl _ (by rw [h3]; rfl)⟩
    · cases h1⟩
theorem se_dnotin (hu : X.A.units + 1 < cLine) (ha : SE X a da) (hb : SE X b db) (hm : behindInMarks .NotIn b = false := by rfl) : SE X (.Compare a [.NotIn] [b] pos) (d2 (inK true) da db) := ⟨fun W tk => impPE (pe_cmp (pc_dnotin hu (ha.run W tk) (hb.run W tk)) hm) fun σ H Q ⟨ρ, env, m, z, m', s, e, p⟩ =>
  bindE s e p fun x m1 ρ1 H1 v s1 E1 r1 e1 p1 => bindE s1 e1 p1 fun y m2 ρ2 H2 u s2 E2 r2 e2 p2 => by
    obtain ⟨w, h1, rfl⟩ := okR_some e2
    unfold inK at h1
    split at h1
    · rename_i k ks hk hd
      cases h1
      obtain ⟨q, o, rfl, g, h3⟩ := din_of s2.mem (r1.mono E2) r2 hk hd
      exact ⟨q, o, rfl, g, p2 ρ2 H2 s2.mem .refl _ (by rw [h3]; rfl)⟩
    · cases h1⟩
theorem st_of_se {e0 : Expr} {op : CmpOp} {f : F2} (h : SE X (.Compare a [op] [b] pos) (d2 f da db)) (hm : behindInMarks op b = false) : ST X (.Compare a [op] [b] pos) (tB' (d2 f da db)) := st_cmpE h hm
/-- d[k] = v -/
def dPutK (do' dk dv : DE) : DS := fun env m => bindS (dv env m) env fun v m => bindS (do' env m) env fun x m => bindS (dk env m) env fun y m => match x, keyD y with
  | .obj n, some k => (match m[n]? with
    | some (.dic ks) => if ks.length < sizeLine then some (.nx env, m.set n (.dic (putZ ks k v))) else none
    | _ => none)
  | _, _ => none
theorem ss_dput {o i value : Expr} {do' dk dv : DE} (hu : X.A.units + 1 < cLine) (ho : SE X o do') (hi : SE X i dk) (hv : SE X value dv) (hs : swapsWith value (some (.Subscript o i pos')) pos.line X.env = pure false := by rfl) : SS X (.Assign [.Subscript o i pos'] value pos) (dPutK do' dk dv) := ⟨fun W tk =>
  impPS (ps_dput hu (ho.run W tk) (hi.run W tk) (hv.run W tk) hs) fun D σ H ⟨ρ, env, m, f, m', s, e, p⟩ =>
    sbE s e p fun v m1 ρ1 H1 vv s1 E1 r1 e1 p1 => sbE s1 e1 p1 fun x m2 ρ2 H2 u s2 E2 r2 e2 p2 => sbE s2 e2 p2 fun y m3 ρ3 H3 w s3 E3 r3 e3 p3 => by
      split at e3
      · rename_i n k hk
        split at e3
        · rename_i ks hn
          split at e3
          · rename_i hz
            cases e3
            obtain ⟨q, rfl, hq⟩ := r2.mono E3
            obtain ⟨vs, h1, h2⟩ := s3.mem.at_ _ _ _ hn hq
            have rv := (r1.mono E2).mono E3
            have E4 : Ext ρ3 H3 ρ3 (upd H3 q (.dK (putK vs k vv))) := ext_set (List.mem_of_getElem? hq)
            have M4 := s3.mem.put (o := .dK (putK vs k vv)) (c := .dic (putZ ks k v)) hq ⟨_, upd_same, rks_put k (RKs.mono E4 ks h2) (rv.mono E4)⟩
            exact ⟨q, _, rfl, .inl ⟨vs, k, h1, keyD_ok hk r3, by rw [← rks_len h2]; exact hz, rfl⟩, p3 ρ3 _ M4 E4 σ (s3.env.mono E4)⟩
          · cases e3
        · cases e3
      · cases e3⟩
/-- dict(d) -/
def copyK : FB := fun xs m => match xs with
  | [x] => (match dicD m x with
    | some ks => some (.obj m.length, m ++ [.dic ks])
    | none => none)
  | _ => none
theorem call_copy : CallR X (.type "dict") (fun xs H Q => ∃ a kvs, xs = [.ref a] ∧ H a = some (.dK kvs) ∧ ∀ p, H p = none → Q (.ref p) (upd H p (.dK kvs))) := by
  intro pins s σ H xs us Q I r hh
  obtain ⟨q, kvs, rfl, hd, k⟩ := hh
  obtain ⟨u, rfl, ru⟩ := vals1 r
  obtain rfl : u = Value.ref q := ru
  exact d_copyOf I (.inl hd) fun p' s' hp I' => ⟨.ref p', _, I', rfl, k p' hp⟩
theorem scf_copy {K : PySem.W.Frag} : SCF K copyK (fun xs H Q => ∃ a kvs, xs = [.ref a] ∧ H a = some (.dK kvs) ∧ ∀ p, H p = none → Q (.ref p) (upd H p (.dK kvs))) := fun ρ m H xs vs z m' Q M a e k => by
  unfold copyK at e
  split at e
  · rename_i x
    split at e
    · rename_i ks hk
      cases e
      obtain ⟨v, s, rfl, h1, h2⟩ := a
      subst h2
      obtain ⟨q, ws, rfl, h3, h4⟩ := dicD_ok M h1 hk
      refine ⟨q, ws, rfl, h3, fun p hp => ?_⟩
      obtain ⟨M', E', r'⟩ := new_cel (o := .dK ws) (c := .dic ks) M hp rfl ⟨ws, upd_same, RKs.mono (ext_new hp) ks h4⟩
      exact k _ _ _ M' E' r'
    · cases e
  · cases e
theorem se_dcopy {es : List Expr} (hg : Gl X "dict") (hm : X.mg "dict" = none) (ha : SA X (e :: es) d) (he : starEach (e :: es) X.env = (false, eval e X.env) :: starEach es X.env := by rfl) (hpl : (backTo pos (starEach es X.env)).any (·.1) = false := by rfl) : SE X (.Call (.Name "dict" p) (e :: es) [] pos) (dB copyK d) := se_callTy call_copy scf_copy hg hm (by decide +kernel) ha (by decide) (by decide) he hpl
end
end Z
namespace Z
open PySem PySem.Spec PyProof.Rows L2
variable [Kd]
theorem u1 {k : Nat} {A : Around} (hr : Room k A) : A.units + 1 < cLine := by have := hr.un; omega
/-! ### repr of a dict of flat values -/
def encP : Key → PyData
  | .inl i => .int i
  | .inr x => .str x
def flatP : Vl → Option PyData
  | .non => some .none
  | .bl b => some (.bool b)
  | .int i => some (.int i)
  | .str x => some (.str x)
  | _ => none
def flatPV : V → Option PyData
  | .non => some .none
  | .bl b => some (.bool b)
  | .int i => some (.int i)
  | .str x => some (.str x)
  | _ => none
def kvsP : List (Key × Vl) → Option (List (PyData × PyData))
  | [] => some []
  | (k, x) :: r => (match flatP x, kvsP r with
    | some d, some ds => some ((encP k, d) :: ds)
    | _, _ => none)
def kvsPV : List (Key × V) → Option (List (PyData × PyData))
  | [] => some []
  | (k, x) :: r => (match flatPV x, kvsPV r with
    | some d, some ds => some ((encP k, d) :: ds)
    | _, _ => none)
theorem flatP_ok {K : PySem.W.Frag} {ρ : Lay} {H : Hp} {x : Vl} {v : V} {d : PyData} (h : flatP x = some d) (r : RV K ρ H x v) : flatPV v = some d := by
  cases x <;> cases h <;> (rw [show v = _ from r]; rfl)
theorem kvsP_ok {K : PySem.W.Frag} {ρ : Lay} {H : Hp} : ∀ {ks : List (Key × Vl)} {vs : List (Key × V)} {D : List (PyData × PyData)}, kvsP ks = some D → RKs K ρ H ks vs → kvsPV vs = some D
  | [], vs, D, h, r => by
    obtain rfl : vs = [] := r
    exact h
  | (k, x) :: ks, vs, D, h, ⟨v, r, e, h1, h2⟩ => by
    subst e
    unfold kvsP at h
    split at h
    · rename_i d ds hd hds
      cases h
      unfold kvsPV
      rw [flatP_ok hd h1, kvsP_ok hds h2]
    · cases h
theorem flatPV_val {v : V} {u : Value} {d : PyData} (h : flatPV v = some d) (r : RelV v u) : PyProof.V.Flat u d := by
  cases v with
  | non => cases h; cases r; exact PyProof.V.Flat.none
  | bl b => cases h; cases r; exact fun _ => .bool b
  | int i => cases h; obtain ⟨t, rfl⟩ := r; exact PyProof.V.Flat.int i t
  | str x => cases h; obtain ⟨t, rfl⟩ := r; exact PyProof.V.Flat.str x t
  | _ => cases h
theorem flatPairs_of : ∀ {kvs : List (Key × V)} {vs : List (Key × Value)} {D : List (PyData × PyData)}, kvsPV kvs = some D → L2.KV kvs vs → PyProof.V.FlatPairs encP vs D
  | [], _, _, h, .nil => by
    cases h
    exact .nil
  | (k, v) :: kvs, _, D, h, .cons (b := (k', u)) hp r => by
    obtain ⟨e, ru⟩ := hp
    cases e
    unfold kvsPV at h
    split at h
    · rename_i d ds hd hds
      cases h
      exact .cons (flatPV_val hd ru) (flatPairs_of hds r)
    · cases h
theorem encP_reads {h : Heap} {P : Program} {w : World} (k : Key) (key : Value) (e : (L2.mixKind P w).is k key = true) : Reads h key (encP k) [] := by
  rcases keyIs_shape e with ⟨i, t, rfl, rfl⟩ | ⟨x, t, rfl, rfl⟩
  · exact .int i t
  · exact .str x t
def reprK : FB := fun xs m => match xs with
  | [x] => (match dicD m x with
    | some ks => (match kvsP ks with
      | some D => if (PyData.showable (.dict D) && decide ((PyData.dict D).depth ≤ 60) && decide ((PyData.dict D).shown.length ≤ sizeLine)) = true then some (.str (PyData.dict D).shown, m) else none
      | none => none)
    | none => none)
  | _ => none
theorem call_reprK {X : Cx} (hr : Room 0 X.A) : CallR X (.builtin "repr") (fun xs H Q => ∃ a kvs D, xs = [.ref a] ∧ H a = some (.dK kvs) ∧ kvsPV kvs = some D ∧ PyData.showable (.dict D) = true ∧ (PyData.dict D).depth ≤ 60 ∧ (PyData.dict D).shown.length ≤ sizeLine ∧ Q (.str (PyData.dict D).shown) H) := by
  intro pins s σ H xs us Q I r hh
  obtain ⟨a, kvs, D, rfl, hd, hD, h1, h3, h4, q⟩ := hh
  obtain ⟨u, rfl, ru⟩ := vals1 r
  obtain rfl : u = Value.ref a := ru
  obtain ⟨z, hsys, vs, rel, dd⟩ := dk_of I.hok hd
  have rd := PyProof.V.reads_dictOf (enc := encP) (fun k key e => encP_reads k key e) dd ((flatPairs_of hD rel).pairsRead _)
  have huu := hr.units
  refine repr_of_reads' rd h1 (fun _ hm => ?_) hr.gd (by omega) (fun _ _ e => e) (fun h' t tk hk => ⟨.str _, H, I.kept hk, ⟨_, rfl⟩, q⟩) h4
  rw [List.mem_singleton] at hm
  rw [← hm] at hsys
  simp at hsys
theorem scf_reprK {K : PySem.W.Frag} : SCF K reprK (fun xs H Q => ∃ a kvs D, xs = [.ref a] ∧ H a = some (.dK kvs) ∧ kvsPV kvs = some D ∧ PyData.showable (.dict D) = true ∧ (PyData.dict D).depth ≤ 60 ∧ (PyData.dict D).shown.length ≤ sizeLine ∧ Q (.str (PyData.dict D).shown) H) := fun ρ m H xs vs z m' Q M a e k => by
  unfold reprK at e
  split at e
  · rename_i x
    split at e
    · rename_i ks hk
      split at e
      · rename_i D hD
        split at e
        · rename_i c
          cases e
          simp only [Bool.and_eq_true, decide_eq_true_eq] at c
          obtain ⟨v, s, rfl, h1, h2⟩ := a
          subst h2
          obtain ⟨q, ws, rfl, h3, h4⟩ := dicD_ok M h1 hk
          exact ⟨q, ws, D, rfl, h3, kvsP_ok hD h4, c.1.1, c.1.2, c.2, k ρ H _ M .refl rfl⟩
        · cases e
      · cases e
    · cases e
  · cases e
section
variable {X : Cx} {e : Expr} {es : List Expr} {p pos apos : Pos} {de : DE} {d dk : DA}
theorem se_reprK (hr : Room 0 X.A) (hg : Gl X "repr") (hm : X.mg "repr" = none) (ha : SA X (e :: es) d) (he : starEach (e :: es) X.env = (false, eval e X.env) :: starEach es X.env := by rfl) (hpl : (backTo pos (starEach es X.env)).any (·.1) = false := by rfl) :
    SE X (.Call (.Name "repr" p) (e :: es) [] pos) (dB reprK d) := se_callB (call_reprK hr) scf_reprK hg hm (by decide +kernel) ha (by decide) (by decide) he hpl
/-! ### *xs in a display or a call -/
def dStar (de : DE) (d : DA) : DA := fun env m => bindR (de env m) fun x m => match seqD m x with
  | some xs => bindR (d env m) fun ys m => some (.ok (xs ++ ys), m)
  | none => none
theorem sa_star (he : SE X e de) (hr : SA X es d) (hs : starEach (.Starred e p :: es) X.env = (true, eval e X.env) :: starEach es X.env := by rfl) : SA X (.Starred e p :: es) (dStar de d) := ⟨fun W tk =>
  impPA (StX.pa_star (he.run W tk) (hr.run W tk) hs) fun σ H Q ⟨ρ, env, m, z, m', s, e, pp⟩ => bindE s e pp fun x m1 ρ1 H1 v s1 E1 r1 e1 p1 => by
    split at e1
    · rename_i xs hx
      obtain ⟨q, vs, rfl, h1, h2⟩ := seqD_ok s1.mem r1 hx
      refine ⟨q, vs, rfl, h1.symm, bindA s1 e1 p1 fun ys m2 ρ2 H2 ws s2 E2 r2 e2 p2 => ?_⟩
      cases e2
      exact p2 ρ2 H2 s2.mem .refl _ ((h2.mono E2).append r2)
    · cases e1⟩
end
section
variable {X : Cx} {o : Expr} {kws : List Keyword} {pos apos : Pos} {de : DE} {d dk : DA} {c mn : Str} {k n : Nat} {f : Addr} {ks : List Str} {gz : List Vl → List Vl → List Vl} {g : FD}
/-- o.m(k = e, ..) -/
theorem se_methK0 {pl : Sem Bool} (he : SE X o de) (hc : Cls X.K (He.ga X.K c)) (hm : Meth X.K (He.ga X.K c) mn f) (F : Fz X.prog X.w X.K X.mg X.base k f 1 ks gz g) (hr : Room k X.A) (hkw : SK X kws dk)
    (hall : (backToKw pos (keywordEach kws X.env)).all (·.1.isSome) = true := by rfl) (hks : (backToKw pos (keywordEach kws X.env)).filterMap (·.1) = ks := by rfl)
    (hpl : ((backTo pos (starEach [] X.env)).any (·.1) || (backToKw pos (keywordEach kws X.env)).any (·.1.isNone)) = false := by rfl)
    (ht : eval (.Call (.Attribute o mn apos) [] kws pos) X.env = (do
      let ov ← eval o X.env
      standAt apos.atName
      let (f, first) ← holding [ov] (getMethod ov mn pl)
      callWith pos f first (backTo pos (starEach [] X.env)) (backToKw pos (keywordEach kws X.env))) := by rfl) :
    SE X (.Call (.Attribute o mn apos) [] kws pos) (dMeth c mn 0 ks.length gz g de dNone dk) := ⟨fun W tk => ⟨fun pins s σ H Q I h => by
  obtain ⟨ρ, env, m, z, m', st, ee, pp⟩ := h
  have h' : rdE X.K W de σ H (fun v H1 => ∃ a dx gs, v = .ref a ∧ H1 a = some (.ins (He.ga X.K c) dx gs) ∧ gs.lookup mn = none ∧ rdA X.K W dk σ H1 fun zs H3 => ∃ ρ1 m1 xs ys, RM X.K ρ1 m1 H3 ∧ RVs X.K ρ1 H3 xs [.ref a] ∧ RVs X.K ρ1 H3 ys zs ∧ xs.length = 1 ∧ ys.length = ks.length ∧ g (gz xs ys) m1 = some (z, m') ∧ Po X.K ρ1 H3 (RV X.K) (fun c dd H' => W c dd σ H') Q z m') :=
    bindE st ee pp fun x m1 ρ1 H1 v s1 E1 r1 e1 p1 => by
      split at e1
      · rename_i c' fs hi
        split at e1
        · rename_i hcc
          rw [Bool.and_eq_true, decide_eq_true_eq, Option.isNone_iff_eq_none] at hcc
          obtain ⟨rfl, hl⟩ := hcc
          obtain ⟨a, dx, gs, rfl, h1, h2⟩ := insD_ok s1.mem r1 hi
          have e1' : bindR (dk env m1) (fun ys m => if ([] : List Vl).length = 0 ∧ ys.length = ks.length then g (gz [x] ys) m else none) = some (z, m') := e1
          refine ⟨a, dx, gs, rfl, h1, h2.none hl, bindA s1 e1' p1 fun ys m3 ρ3 H3 zs s3 E3 r3 e3 p3 => ?_⟩
          split at e3
          · rename_i hn
            exact ⟨ρ3, m3, [x], ys, s3.mem, ⟨_, _, rfl, r1.mono E3, rfl⟩, r3, rfl, hn.2, e3, p3⟩
          · cases e3
        · cases e1
      · cases e1
  refine PySem.W.methodCall_KW (pl := pl) (thn ((he.run W tk).run pins s σ H _ I h') fun u s1 ⟨x, H1, I1, rx, a, dx, fs, ex, ea, l, q⟩ => ?_) ht
  subst ex
  obtain rfl : u = Value.ref a := rx
  refine getmeth_ok I1 ea hc hm l ?_
  refine PySem.W.callWith_KW0 (first := [.ref a]) (h₀ := X.base) I.ok.mod.kin hm.kp hall (thn ((hkw.run W tk).run pos pins s1 σ H1 _ I1 q) fun ws s3 ⟨zs, H3, I3, rz, q3⟩ => ⟨I3.kIn, ?_⟩) hpl
  rw [hks]
  obtain ⟨ρ1, m1, xs, ys, M1, rx, ry, hn, hy, e1, p1⟩ := q3
  exact F.run hr tk (us := [.ref a]) (vs := [.ref a]) I3 (.cons rfl .nil) rz M1 rx ry hn hy e1 p1⟩⟩
end
/-! ### what these compute -/
@[simp] theorem dStar_ap {de : DE} {d : DA} {env : Ev} {m : Mem} : dStar de d env m = bindR (de env m) fun x m => match seqD m x with
  | some xs => bindR (d env m) fun ys m => some (.ok (xs ++ ys), m)
  | none => none := rfl
@[simp] theorem dNewK_ap {env : Ev} {m : Mem} : dNewK env m = some (.ok (.obj m.length), m ++ [.dic []]) := rfl
theorem dicD_obj {m : Mem} {n : Nat} {ks : List (Key × Vl)} (h : m[n]? = some (.dic ks)) : dicD m (.obj n) = some ks := by
  unfold dicD
  simp only [h]
theorem ixK_obj {m : Mem} {n : Nat} {ks : List (Key × Vl)} {y v : Vl} {k : Key} (h : m[n]? = some (.dic ks)) (hk : keyD y = some k) (hv : lookZ ks k = some v) : ixK (.obj n) y m = some (v, m) := by
  unfold ixK
  simp only [dicD_obj h, hk, hv]
theorem inK_obj {neg : Bool} {m : Mem} {n : Nat} {ks : List (Key × Vl)} {y : Vl} {k : Key} (h : m[n]? = some (.dic ks)) (hk : keyD y = some k) : inK neg y (.obj n) m = some (.bl (if neg then !(lookZ ks k).isSome else (lookZ ks k).isSome), m) := by
  unfold inK
  simp only [dicD_obj h, hk]
@[simp] theorem dPutK_ap {do' dk dv : DE} {env : Ev} {m : Mem} : dPutK do' dk dv env m = bindS (dv env m) env fun v m => bindS (do' env m) env fun x m => bindS (dk env m) env fun y m => match x, keyD y with
  | .obj n, some k => (match m[n]? with
    | some (.dic ks) => if ks.length < sizeLine then some (.nx env, m.set n (.dic (putZ ks k v))) else none
    | _ => none)
  | _, _ => none := rfl
end Z
namespace Z
open PySem PySem.Spec PyProof.Rows L2
variable [Kd]
/-! ### {k: v, ..} -/
def pairsD : List (DE × DE) → Ev → Mem → Option (R (List (Key × Vl)) × Mem)
  | [], _, m => some (.ok [], m)
  | (dk, dv) :: r, env, m => bindR (dk env m) fun k m => bindR (dv env m) fun v m => bindR (pairsD r env m) fun ps m => match keyD k with
    | some k => some (.ok ((k, v) :: ps), m)
    | none => none
def mergeZ (ks more : List (Key × Vl)) : List (Key × Vl) := more.foldl (fun acc p => putZ acc p.1 p.2) ks
theorem rks_merge {K : PySem.W.Frag} {ρ : Lay} {H : Hp} : ∀ {more : List (Key × Vl)} {mv : List (Key × V)} {ks : List (Key × Vl)} {vs : List (Key × V)}, RKs K ρ H more mv → RKs K ρ H ks vs → RKs K ρ H (mergeZ ks more) (mergeK vs mv)
  | [], mv, ks, vs, h, g => by
    obtain rfl : mv = [] := h
    exact g
  | (k, x) :: more, mv, ks, vs, ⟨v, r, e, h1, h2⟩, g => by
    subst e
    show RKs K ρ H (mergeZ (putZ ks k x) more) (mergeK (putK vs k v) r)
    exact rks_merge h2 (rks_put k g h1)
structure SPs (X : Cx) (pos : Pos) (keys : List (Option Expr)) (values : List Expr) (ds : List (DE × DE)) : Prop where
  run : ∀ W, Takes X W → PPs X pos keys values (ds.map fun p => (rdE X.K W p.1, rdE X.K W p.2))
section
variable {X : Cx} {pos : Pos} {k v : Expr} {ks : List (Option Expr)} {vs : List Expr} {dk dv : DE} {ds : List (DE × DE)}
theorem sps_nil : SPs X pos [] [] [] := ⟨fun W tk => pps_nil⟩
theorem sps_cons (hk : SE X k dk) (hv : SE X v dv) (hr : SPs X pos ks vs ds) : SPs X pos (some k :: ks) (v :: vs) ((dk, dv) :: ds) := ⟨fun W tk => pps_cons (hk.run W tk) (hv.run W tk) (hr.run W tk)⟩
theorem tPairs_of {K : PySem.W.Frag} {W : WX} {σ : L2.St} : ∀ {ds : List (DE × DE)} {ρ : Lay} {env : Ev} {m m' : Mem} {H : Hp} {r : R (List (Key × Vl))} {Q : List (V × V) → Hp → Prop}, S K ρ env m σ H → pairsD ds env m = some (r, m') →
    (∀ ρ' H', S K ρ' env m' σ H' → Ext ρ H ρ' H' → match r with
      | .ok ps => ∀ mv, RKs K ρ' H' ps mv → Q (mv.map fun p => (kV p.1, p.2)) H'
      | .ex c fs => ∀ dd, XD K ρ' H' dd fs → W (.ref (He.ga K c)) dd σ H') → tPairs (ds.map fun p => (rdE K W p.1, rdE K W p.2)) σ H Q
  | [], ρ, env, m, m', H, r, Q, s, e, p => by
    cases e
    exact p ρ H s .refl [] rfl
  | (dk, dv) :: ds, ρ, env, m, m', H, r, Q, s, e, p => by
    unfold pairsD at e
    show rdE K W dk σ H fun x H1 => rdE K W dv σ H1 fun y H2 => tPairs (ds.map fun p => (rdE K W p.1, rdE K W p.2)) σ H2 fun ps H3 => Q ((x, y) :: ps) H3
    unfold bindR at e
    split at e
    · cases e
    · rename_i x m1 h0
      refine goE s h0 fun ρ1 H1 vk s1 E1 r1 => ?_
      dsimp only at e
      split at e
      · cases e
      · rename_i y m2 h1
        refine goE s1 h1 fun ρ2 H2 vv s2 E2 r2 => ?_
        split at e
        · cases e
        · rename_i ps m3 h2
          split at e
          · rename_i kk hk
            cases e
            refine tPairs_of s2 h2 fun ρ3 H3 s3 E3 => ?_
            have q := p ρ3 H3 s3 ((E1.trans E2).trans E3)
            intro mv rmv
            have e1 := keyD_ok hk r1
            subst e1
            exact q ((kk, vv) :: mv) ⟨vv, mv, rfl, r2.mono E3, rmv⟩
          · cases e
        · rename_i c fs m3 h2
          cases e
          refine tPairs_of s2 h2 fun ρ3 H3 s3 E3 => ?_
          exact p ρ3 H3 s3 ((E1.trans E2).trans E3)
      · rename_i c fs m2 h1
        cases e
        exact exE s1 h1 fun ρ2 H2 dd s2 E2 x => p ρ2 H2 s2 (E1.trans E2) dd x
    · rename_i c fs m1 h0
      cases e
      exact exE s h0 fun ρ1 H1 dd s1 E1 x => p ρ1 H1 s1 E1 dd x
def dDisp (ds : List (DE × DE)) : DE := fun env m => bindR (pairsD ds env (m ++ [.dic []])) fun ps m' => if ps.length ≤ 15 then (match m'[m.length]? with
  | some (.dic []) => some (.ok (.obj m.length), m'.set m.length (.dic (mergeZ [] ps)))
  | _ => none) else none
theorem se_disp (h : SPs X pos ks vs ds) (hall : ks.all (·.isSome) = true) (hl : ks.length = vs.length) (h0 : ks ≠ []) (h15 : ks.length ≤ 15) : SE X (.Dict ks vs pos) (dDisp ds) := ⟨fun W tk =>
  impPE (pe_disp (h.run W tk) hall hl h0 h15) fun σ H Q ⟨ρ, env, m, z, m', s, e, pp⟩ q hq => by
    obtain ⟨M1, E1, r1⟩ := new_cel (o := .dK []) (c := .dic []) s.mem hq rfl ⟨[], upd_same, rfl⟩
    have s1 : S X.K (ρ.cel q) env (m ++ [.dic []]) σ (upd H q (.dK [])) := s.to E1 M1
    unfold dDisp bindR at e
    split at e
    · cases e
    · rename_i ps m2 h0
      dsimp only at e
      split at e
      · rename_i hz
        split at e
        · rename_i hm
          cases e
          refine tPairs_of s1 h0 fun ρ2 H2 s2 E2 => ?_
          intro mv rmv
          obtain ⟨q', hq', hc⟩ := r1.mono E2
          cases hq'
          obtain ⟨us, h1, h2⟩ := s2.mem.at_ _ _ _ hm hc
          obtain rfl : us = [] := h2
          have hl2 := rks_len rmv
          have E3 : Ext ρ2 H2 ρ2 (upd H2 q (.dK (mergeK [] mv))) := ext_set (List.mem_of_getElem? hc)
          have M3 := s2.mem.put (o := .dK (mergeK [] mv)) (c := .dic (mergeZ [] ps)) hc ⟨_, upd_same, RKs.mono E3 _ (rks_merge rmv (show RKs X.K ρ2 H2 [] [] from rfl))⟩
          exact ⟨h1, mv, rfl, by rw [← hl2]; exact hz, pp ρ2 _ M3 ((E1.trans E2).trans E3) _ ⟨q, rfl, hc⟩⟩
        · cases e
      · cases e
    · rename_i c fs m2 h0
      cases e
      exact tPairs_of s1 h0 fun ρ2 H2 s2 E2 dd x => pp ρ2 H2 s2.mem (E1.trans E2) dd x⟩
end
@[simp] theorem dDisp_ap {ds : List (DE × DE)} {env : Ev} {m : Mem} : dDisp ds env m = bindR (pairsD ds env (m ++ [.dic []])) fun ps m' => if ps.length ≤ 15 then (match m'[m.length]? with
  | some (.dic []) => some (.ok (.obj m.length), m'.set m.length (.dic (mergeZ [] ps)))
  | _ => none) else none := rfl
@[simp] theorem pairsD_nil {env : Ev} {m : Mem} : pairsD [] env m = some (.ok [], m) := rfl
@[simp] theorem pairsD_cons {dk dv : DE} {r : List (DE × DE)} {env : Ev} {m : Mem} : pairsD ((dk, dv) :: r) env m = bindR (dk env m) fun k m => bindR (dv env m) fun v m => bindR (pairsD r env m) fun ps m => match keyD k with
    | some k => some (.ok ((k, v) :: ps), m)
    | none => none := rfl
end Z
namespace Z
open PySem PySem.Spec PyProof.Rows L2
variable [Kd]
/-- what a call leaves behind, told from an earlier state on -/
theorem ub_from {fs : List Addr} {J J1 J2 : Hp} {g g1 B g2 : Heap} (un : Un fs [] J J1 g g1) (up : ∀ c x, g.get? c = some x → g1.get? c = some x) (ub : UB fs J1 J2 g1 B g2) : UB fs J J2 g B g2 where
  keep c x hc n hb := by
    have f := un.free c x hc n (List.not_mem_nil)
    exact ub.keep c x (up c x hc) f hb
  slot c x hc hb := by
    have f := up c x hc
    exact ub.slot c x f hb
  free c x hc n := by
    have f := un.free c x hc n (List.not_mem_nil)
    exact ub.free c x (up c x hc) f
  there c x hc hb := by
    have f := up c x hc
    exact ub.there c x f hb
  tups c l h := by
    have f := un.tups c l h
    exact ub.tups c l f
  frzs c x l h := by
    have f := un.frzs c x l h
    exact ub.frzs c x l f
  tbls c l h := by
    obtain ⟨r1, h1⟩ := un.tbls c l h
    obtain ⟨r2, h2⟩ := ub.tbls c (l ++ r1) h1
    rw [Array.append_assoc] at h2
    exact ⟨_, h2⟩
theorem cx_from {P : Program} {w : World} : StX.CXUp (CXk P w) := fun outer s J s1 J1 E e s2 un up os0 h => by
  unfold CXk at h ⊢
  by_cases q : Kd.hot = true
  · rw [if_pos q] at h ⊢
    rcases h with ⟨a, B, J2, c, dd, h1, h2, h3, ub, h5, h6, h7, h8⟩
    exact ⟨a, B, J2, c, dd, h1, h2, h3, ub_from un up ub, h5, h6.trans os0, h7, h8⟩
  · rw [if_neg q] at h ⊢
    rcases h with ⟨a, B, J2, c, dd, h1, h2, h3, ub, h5, h6, h7, h8⟩
    exact ⟨a, B, J2, c, dd, h1, h2, h3, ub_from un up ub, h5, h6.trans os0, h7, h8⟩
/-! ### defs with a star parameter and keyword-only ones -/
/-- t looks the names up in the dict at D, one behind another, and goes on as r -/
def KwS {α : Type} (D : Addr) : List (Str × Value) → Sem α → Sem α → Prop
  | [], t, r => t = r
  | q :: l, t, r => ∃ (β γ : Type) (k1 : Option Value → Sem β) (k2 : β → Sem γ) (k3 : γ → Sem α) (a : β), t = ((nsGet D q.1 >>= k1) >>= k2) >>= k3 ∧ k1 (some q.2) = pure a ∧ KwS D l (k2 a >>= k3) r
theorem KwS.wp {α : Type} {K : PySem.W.Frag} {M : Model} {A : Around} {Q : α → Shared → Prop} {E : Value → Shared → Prop} {s : Shared} {D : Addr} (X : K.In s.heap) : ∀ {l : List (Str × Value)} {t r : Sem α}, (∀ q ∈ l, PySem.W.nsIn K D q.1 = some (some q.2)) → KwS D l t r → wpAny M A r Q E s → wpAny M A t Q E s
  | [], t, r, _, e, h => by
    have e : t = r := e
    rw [e]
    exact h
  | q :: l, t, r, hl, e, h => by
    obtain ⟨β, γ, k1, k2, k3, a, e1, e2, e3⟩ := e
    have l1 : PySem.W.Looks M s.heap (nsGet D q.1 >>= k1) a := (PySem.W.looks_nsIn X (hl q (List.mem_cons_self ..))).andThen (PySem.W.Looks.of_pure e2)
    rw [e1, bind_assoc]
    exact wpAny_bind (l1 A _ E s (fun _ _ h => h) (KwS.wp X (fun p hp => hl p (List.mem_cons_of_mem _ hp)) e3 h))
theorem KwS.nil {α : Type} {D : Addr} {t r : Sem α} (h : t = r) : KwS D [] t r := h
/-- the def at f: np parameters, what is left over as a tuple, the keywords ks -/
structure Sz (P : Program) (w : World) (K : PySem.W.Frag) (mg : Str → Option Value) (base : Heap) (k : Nat) (f : Addr) (np : Nat) (ks : List Str) (gz : List Vl → List Vl → List Vl) (g : FD) : Prop where
  run : ∀ (A : Around) (outer : List Env) (s : Shared) (H : Hp) (us ws : List Value) (vs zs : List V) (ρ : Lay) (m m' : Mem) (xs ys : List Vl) (r : R Vl) (Q : VK) (E : XK), Room k A → Env0 P w K mg base A outer s H → Vals vs us → Vals zs ws → RM K ρ m H → RVs K ρ H xs vs → RVs K ρ H ys zs → np ≤ xs.length → xs.length ≤ sizeLine → ys.length = ks.length →
    g (gz xs ys) m = some (r, m') → Po K ρ H (RV K) (fun c dd H' => E c dd H') Q r m' → codeAny (model P w) A (.call (.ref f) ⟨us, ks.zip ws⟩) (CR (CXk P w) outer P w H s Q E) s
theorem Sz.mono {P : Program} {w : World} {K : PySem.W.Frag} {mg : Str → Option Value} {base : Heap} {j k : Nat} {f : Addr} {np : Nat} {ks : List Str} {gz : List Vl → List Vl → List Vl} {g : FD} (F : Sz P w K mg base k f np ks gz g) (h : k ≤ j) : Sz P w K mg base j f np ks gz g :=
  ⟨fun A outer s H us ws vs zs ρ m m' xs ys r Q E hr => F.run A outer s H us ws vs zs ρ m m' xs ys r Q E (hr.mono h)⟩
section
variable {P : Program} {w : World} {K : PySem.W.Frag} {mg : Str → Option Value} {base : Heap} {x qual : Str} {params : Arguments} {body : List Stmt} {scope : Scope} {kws : List (Str × V)} {f : Addr} {fd : FuncData} {N ps : List Str} {pv : Str} {k : Nat} {d : DS}
/-- what a star def's arguments are -/
def starZ (np : Nat) (S : List Src) (mz : List Vl) (xs ys : List Vl) : List Vl := pickL S (xs.take np) [] mz ys ++ [.tup (xs.drop np)]
theorem sz_core {oc dV kV doc pm cdv ct : Value} {an od : Option Addr} {osl : Array (Option Value)} (lk : K.lookup f = some ⟨oc, od, .func (PySem.W.fnOf x qual params body scope dV kV doc pm an cdv ct), osl⟩) (hcd : PySem.W.codeIn K cdv qual = true) (S : FnScope N (ps ++ [pv]) scope)
    (hb : ∀ (A : Around) (outer : List Env) (s : Shared) (H : Hp) (E : XK), Room k (A.deeper (envOfC qual scope s.heap.objs.size f cdv)) → SSs (cxOf (CXk P w) P w K mg base N qual scope f cdv A outer s H E) body d)
    (np : Nat) (ks : List Str) (Sr : List Src) (mz : List Vl) (mv : List Value) (mV : List V) (rk : Vals mV mv) (hz : ∀ ρ H, RVs K ρ H mz mV)
    (hbind : ∀ (M : Model) (A : Around) (us rest ws : List Value) (Q : List (Str × Value) → Shared → Prop) (E : Value → Shared → Prop) (s : Shared), us.length = np → ws.length = ks.length → K.In s.heap → wpAny M A (newTuple rest >>= fun t => pure (ps.zip (pickL Sr us [] mv ws) ++ [(pv, t)])) Q E s →
      wpAny M A (bindArgs (PySem.W.fnOf x qual params body scope dV kV doc pm an cdv ct) ⟨us ++ rest, ks.zip ws⟩) Q E s)
    (hl : Sr.length = ps.length) (hS : Sr.all (Src.lt np 0 mV.length ks.length) = true) : Sz P w K mg base (k + 1) f np ks (starZ np Sr mz) (bodyD N.length d) := ⟨fun A outer s H us ws vs zs ρ m m' xs ys r Q E hr e0 a b Mm ra rb hn hz2 hk e p => by
  have hxv : xs.length = vs.length := ra.length
  have hvu : vs.length = us.length := a.length
  have hnil : H s.heap.objs.size = Option.none := e0.hok.fresh (Nat.le_refl _)
  have u1l : (us.take np).length = np := by rw [List.length_take]; omega
  have v1l : (vs.take np).length = np := by rw [List.length_take]; omega
  have wl : ws.length = ks.length := by rw [← b.length, ← rb.length]; exact hk
  have zl : zs.length = ks.length := by rw [← rb.length]; exact hk
  have pl : (pickL Sr (vs.take np) [] mV zs).length = ps.length := by
    rw [← hl]
    refine pick_len ?_
    rw [v1l, zl]
    exact hS
  have puv : Vals (pickL Sr (vs.take np) [] mV zs) (pickL Sr (us.take np) [] mv ws) := pick_vals (a.take np) .nil rk b Sr
  have old : K.In s.heap := e0.mod.kin.keeps fun b o e => (e0.bs b o e).1
  have eu : us.take np ++ us.drop np = us := List.take_append_drop np us
  have hd : (us.drop np).length ≤ sizeLine := by rw [List.length_drop]; omega
  have hdv : (vs.drop np).length ≤ sizeLine := by rw [List.length_drop]; omega
  have run := StX.run_bnd (CX := CXk P w) (mg := mg) (base := base) (Q := Q) (E := E) (args := ⟨us, ks.zip ws⟩) (G := fun xs' H2 => ∃ p, H p = Option.none ∧ xs' = pickL Sr (vs.take np) [] mV zs ++ [V.ref p] ∧ H2 = upd H p (.tup (vs.drop np))) lk hcd S hr.toRoom e0 (fun A' Ex Q' h => by
    have z := hbind (model P w) A' (us.take np) (us.drop np) ws Q' Ex s u1l wl old (wpAny_bind (wpAny_newTuple (wpAny_pure (by
      have new : ObjOk P w (upd H s.heap.objs.size (.tup (vs.drop np))) (s.heap.push ({ cls := .type "tuple", data := .seq (us.drop np).toArray } : Obj)) s.heap.objs.size (.tup (vs.drop np)) := ⟨hdv, us.drop np, a.drop np, ⟨_, Heap.get?_push_size _ rfl, rfl, _, rfl⟩⟩
      have un := StX.un_laid (fs := frs outer) (s := s) (o := ({ cls := .type "tuple", data := .seq (us.drop np).toArray } : Obj)) (u := .tup (vs.drop np)) hnil
      have z := h _ _ (pickL Sr (vs.take np) [] mV zs ++ [V.ref s.heap.objs.size]) (pickL Sr (us.take np) [] mv ws ++ [Value.ref s.heap.objs.size]) (StX.env0_laid e0 new) un rfl (fun e s' => cx_from outer s H _ _ E e s' un (fun b o q => Heap.get?_push_of_some _ q) rfl) (puv.append (.cons rfl .nil))
        (by rw [List.length_append, List.length_append, pl] <;> rfl) ⟨_, hnil, rfl, rfl⟩
      rw [List.zip_append (by rw [← puv.length, pl])] at z
      exact z)) hd))
    rw [eu] at z
    exact z) (fun s2 H2 vs2 ⟨p', hp', ex, eH⟩ hr' => by
    subst ex eH
    refine ⟨_, (hb A outer s2 _ E ⟨hr', hr.gd⟩).run (fun cls dd _ H' => E cls dd H') (Z.takes_of rfl rfl rfl rfl), ?_⟩
    have M1 := Mm.laid (o := .tup (vs.drop np)) hp'
    have E1 := ext_new (ρ := ρ) (o := HO.tup (vs.drop np)) hp'
    have rx : RVs K ρ (upd H p' (.tup (vs.drop np))) (starZ np Sr mz xs ys) (pickL Sr (vs.take np) [] mV zs ++ [V.ref p']) := by
      refine RVs.append ?_ ⟨_, _, rfl, new_tup Mm hp' (ra.drop np), rfl⟩
      exact pick_rvs ((ra.mono E1).take np) (show RVs K ρ _ [] [] from rfl) (hz ρ _) (rb.mono E1) Sr
    have p1 := p.mono E1
    unfold bodyD at e
    split at e
    · rename_i v m2 h1
      cases e
      exact ⟨ρ, _, m, _, _, ⟨M1, re_start rx⟩, h1, fun ρ' H' M' E' v' rv => p1 ρ' H' M' E' v' rv⟩
    · rename_i env m2 h1
      cases e
      exact ⟨ρ, _, m, _, _, ⟨M1, re_start rx⟩, h1, fun ρ' H' M' E' σ' rv => p1 ρ' H' M' E' .non rfl⟩
    · rename_i c fs env m2 h1
      cases e
      exact ⟨ρ, _, m, _, _, ⟨M1, re_start rx⟩, h1, fun ρ' H' M' E' σ' rv dd x => p1 ρ' H' M' E' dd x⟩
    · cases e)
  exact run⟩
/-- no keyword-only defaults are asked for -/
theorem sz1 (F : FunD K x qual params body scope [] kws f fd) (S : FnScope N (ps ++ [pv]) scope)
    (hb : ∀ (cdv : Value) (A : Around) (outer : List Env) (s : Shared) (H : Hp) (E : XK), Room k (A.deeper (envOfC qual scope s.heap.objs.size f cdv)) → SSs (cxOf (CXk P w) P w K mg base N qual scope f cdv A outer s H E) body d)
    (np : Nat) (ks : List Str) (Sr : List Src)
    (h : ∀ (kV doc pm : Value) (an : Option Addr) (cdv ct : Value) (us rest ws : List Value), us.length = np → ws.length = ks.length → bindArgs (PySem.W.fnOf x qual params body scope .none kV doc pm an cdv ct) ⟨us ++ rest, ks.zip ws⟩ = (newTuple rest >>= fun t => pure (ps.zip (pickL Sr us [] [] ws) ++ [(pv, t)])))
    (hl : Sr.length = ps.length := by rfl) (hS : Sr.all (Src.lt np 0 0 ks.length) = true := by rfl) : Sz P w K mg base (k + 1) f np ks (starZ np Sr []) (bodyD N.length d) := by
  obtain ⟨oc, od, dV, kV, doc, pm, an, cdv, ct, osl, rfl, lk, hcd, hD, hK⟩ := F.ex
  rcases hD with ⟨_, rfl⟩ | ⟨e, _⟩
  · exact sz_core lk hcd S (hb cdv) np ks Sr [] [] [] .nil (fun ρ H => rfl) (fun M A us rest ws Q E s l1 l2 _ z => by
      rw [h kV doc pm an cdv ct us rest ws l1 l2]
      exact z) hl hS
  · exact absurd rfl e
/-- some are -/
theorem sz3 (F : FunD K x qual params body scope [] kws f fd) (S : FnScope N (ps ++ [pv]) scope)
    (hb : ∀ (cdv : Value) (A : Around) (outer : List Env) (s : Shared) (H : Hp) (E : XK), Room k (A.deeper (envOfC qual scope s.heap.objs.size f cdv)) → SSs (cxOf (CXk P w) P w K mg base N qual scope f cdv A outer s H E) body d)
    (np : Nat) (ks : List Str) (ms : List (Str × V)) (Sr : List Src) (mz : List Vl) (hz : ∀ ρ H, RVs K ρ H mz (ms.map (·.2))) (hk : kws ≠ []) (hms : ∀ q ∈ ms, q ∈ kws)
    (h : ∀ (D : Addr) (doc pm : Value) (an : Option Addr) (cdv ct : Value) (us rest mv ws : List Value), us.length = np → mv.length = ms.length → ws.length = ks.length →
      KwS D ((ms.map (·.1)).zip mv) (bindArgs (PySem.W.fnOf x qual params body scope .none (.ref D) doc pm an cdv ct) ⟨us ++ rest, ks.zip ws⟩) (newTuple rest >>= fun t => pure (ps.zip (pickL Sr us [] mv ws) ++ [(pv, t)])))
    (hl : Sr.length = ps.length) (hS : Sr.all (Src.lt np 0 ms.length ks.length) = true) : Sz P w K mg base (k + 1) f np ks (starZ np Sr mz) (bodyD N.length d) := by
  obtain ⟨oc, od, dV, kV, doc, pm, an, cdv, ct, osl, rfl, lk, hcd, hD, hK⟩ := F.ex
  rcases hD with ⟨_, rfl⟩ | ⟨e, _⟩
  · rcases hK with e | ⟨D, rfl, hq⟩
    · exact absurd e hk
    · obtain ⟨mv, hl2, rk, hks⟩ := kwd_vals (ms := ms) fun q hm => hq q (hms q hm)
      exact sz_core lk hcd S (hb cdv) np ks Sr mz mv (ms.map (·.2)) rk hz (fun M A us rest ws Q E s l1 l2 X z => KwS.wp X hks (h D doc pm an cdv ct us rest mv ws l1 hl2 l2) z) hl (by rw [List.length_map]; exact hS)
  · exact absurd rfl e
end
/-! ### a new instance of a class whose __init__ has a star -/
section
variable {X : Cx} {c : Str} {k np n : Nat} {f : Addr} {ks : List Str} {gz : List Vl → List Vl → List Vl} {g : FD}
theorem Sz.make {W : WX} (M : Mk X.K (He.ga X.K c) f) (F : Sz X.prog X.w X.K X.mg X.base k f np ks gz g) (hr : Room (k + 1) X.A) (tk : Takes X W) {pins : List (Addr × Obj)} {σ : L2.St} {H : Hp} {s : Shared} {Q : VK} {us ws : List Value} {vs zs : List V} {ρ : Lay} {m m' : Mem} {xs ys : List Vl} {r : R Vl}
    (I : Inv X pins σ H s) (a : Vals vs us) (b : Vals zs ws) (Mm : RM X.K ρ m H) (ra : RVs X.K ρ H xs vs) (rb : RVs X.K ρ H ys zs) (hn : np ≤ xs.length + 1) (hz : xs.length < sizeLine) (hk : ys.length = ks.length) (e : initD c gz g xs ys m = some (r, m'))
    (p : Po X.K ρ H (RV X.K) (fun c dd H' => W c dd σ H') Q r m') : wpAny (model X.prog X.w) X.A (call (.ref (He.ga X.K c)) us (ks.zip ws)) (EP X pins σ Q) X.xe s := by
  have I2 := Inv.made (C := He.ga X.K c) I
  have f1 : H s.heap.objs.size = none := I.hok.fresh (Nat.le_refl _)
  have f2 : H (s.heap.objs.size + 1) = none := I.hok.fresh (Nat.le_succ _)
  have M1 := Mm.laid (o := .own (s.heap.objs.size + 1)) f1
  have ne1 : s.heap.objs.size + 1 ≠ s.heap.objs.size := Nat.succ_ne_self _
  have f3 : (upd H s.heap.objs.size (.own (s.heap.objs.size + 1))) (s.heap.objs.size + 1) = none := by rw [upd_ne ne1]; exact f2
  have M2 := M1.laid (o := .ins (He.ga X.K c) s.heap.objs.size []) f3
  have w1 := M1.fresh f3
  have w2 := M1.freshz f3
  have E0 : Ext ρ H ρ (upd (upd H s.heap.objs.size (.own (s.heap.objs.size + 1))) (s.heap.objs.size + 1) (.ins (He.ga X.K c) s.heap.objs.size [])) := (ext_new f1).trans (ext_new f3)
  have E3 := E0.toCel ⟨w1, w2, f2⟩
  have M3 := M2.toCel (c := .ins c []) w1 w2 upd_same rfl ⟨s.heap.objs.size, [], upd_same, rfl⟩
  have ro : RV X.K (ρ.cel (s.heap.objs.size + 1)) (upd (upd H s.heap.objs.size (.own (s.heap.objs.size + 1))) (s.heap.objs.size + 1) (.ins (He.ga X.K c) s.heap.objs.size [])) (.obj m.length) (.ref (s.heap.objs.size + 1)) := ⟨_, rfl, by
    show (ρ.c ++ [s.heap.objs.size + 1])[m.length]? = _
    rw [← Mm.len]
    simp⟩
  have rx : RVs X.K (ρ.cel (s.heap.objs.size + 1)) (upd (upd H s.heap.objs.size (.own (s.heap.objs.size + 1))) (s.heap.objs.size + 1) (.ins (He.ga X.K c) s.heap.objs.size [])) (.obj m.length :: xs) (.ref (s.heap.objs.size + 1) :: vs) := ⟨_, _, rfl, ro, ra.mono E3⟩
  have r1 : Vals (V.ref (s.heap.objs.size + 1) :: vs) (Value.ref (s.heap.objs.size + 1) :: us) := .cons rfl a
  have hpost : ∃ r0, g (gz (.obj m.length :: xs) ys) (m ++ [.ins c []]) = some (r0, m') ∧ Po X.K (ρ.cel (s.heap.objs.size + 1)) (upd (upd H s.heap.objs.size (.own (s.heap.objs.size + 1))) (s.heap.objs.size + 1) (.ins (He.ga X.K c) s.heap.objs.size [])) (RV X.K) (fun c dd H' => W c dd σ H') (fun v H2 => v = .non ∧ Q (.ref (s.heap.objs.size + 1)) H2) r0 m' := by
    unfold initD at e
    split at e
    · rename_i m2 h4
      cases e
      refine ⟨_, h4, fun ρ' H' M' E' v rv => ⟨rv, p ρ' H' M' (E3.trans E') _ (ro.mono E')⟩⟩
    · rename_i c' fs m2 h4
      cases e
      exact ⟨_, h4, fun ρ' H' M' E' dd x => p ρ' H' M' (E3.trans E') dd x⟩
    · cases e
  obtain ⟨r0, hg, hp⟩ := hpost
  refine wpAny_call (make_map (f := f) I.kIn M.makes M.init (beq_iff_eq.mp M.fn) (codeAny_mono (F.run _ X.stack _ _ (Value.ref (s.heap.objs.size + 1) :: us) ws _ zs _ _ m' _ ys r0 _ (fun c dd H' => W c dd σ H') (hr.make _ us (ks.zip ws))
    (I2.env0.make _ us (ks.zip ws)) r1 b M3 rx (rb.mono E3) (by rw [List.length_cons]; exact hn) (by rw [List.length_cons]; exact hz) hk hg hp) fun r s' hq' => ?_))
  cases r with
  | error e => exact tk.call I2 (fun _ _ _ h => h) hq'
  | ok fl =>
    cases fl with
    | ret u =>
      obtain ⟨v, H', I3, rv, ev, q3⟩ := I2.after hq'
      subst ev
      exact ⟨rv, ⟨V.ref (s.heap.objs.size + 1), H', I3, rfl, q3⟩⟩
    | next => exact False.elim hq'
    | brk => exact False.elim hq'
    | cont => exact False.elim hq'
theorem Sz.mruns (M : Mk X.K (He.ga X.K c) f) (F : Sz X.prog X.w X.K X.mg X.base k f np ks gz g) (hr : Room (k + 1) X.A) (hn : np ≤ n + 1 := by decide) (hz : n < sizeLine := by decide +kernel) : Z.Runs X (He.ga X.K c) n ks (initD c gz g) := fun {W} tk {pins σ H s Q us ws vs zs ρ m m' xs ys r} I a b Mm ra rb h1 h2 e p => Sz.make M F hr tk I a b Mm ra rb (by rw [h1]; exact hn) (by rw [h1]; exact hz) h2 e p
end
end Z
namespace Z
open PySem PySem.Spec PyProof.Rows L2
variable [Kd]
/-! ### calls with stars and keywords -/
section
variable {M : Model} {A : Around} {E : Value → Shared → Prop} {s : Shared}
theorem args_lone {f : Value} {x : Sem Value} {pos : Pos} {kws : List (Option Str × Sem Value)} {Q : Args → Shared → Prop} (hall : kws.all (·.1.isSome) = true)
    (h : wpAny M A x (fun v s₁ => wpAny M A (evalAll (kws.map (·.2))) (fun ks s₂ => PySem.W.StarOf M A E v (fun vs s₃ => Q ⟨vs, (kws.filterMap (·.1)).zip ks⟩ s₃) s₂) E s₁) E s) :
    wpAny M A (evalArgs f true [(true, (do let v ← x; standAt pos; pure v))] kws) Q E s := by
  unfold evalArgs
  refine wpAny_bind (wpAny_bind (wpAny_mono h (fun v s₁ h₁ => wpAny_bind (wpAny_standAt (wpAny_pure ?_))) fun _ _ x => x))
  refine wpAny_holding ?_
  simp only [hall, if_true]
  refine wpAny_bind (wpAny_mono h₁ (fun ks s₂ h₂ => ?_) fun _ _ x => x)
  unfold PySem.W.StarOf at h₂
  refine wpAny_bind (wpAny_bind (wpAny_mono h₂ (fun b s₃ h₃ => ?_) fun _ _ x => x))
  obtain ⟨rfl, h₃⟩ := h₃
  have z := wpAny_holding (vs := ((kws.filterMap (·.1)).zip ks).map (·.2)) (wpAny_mono h₃ (fun vs s₄ h₄ => (wpAny_pure h₄ : wpAny M A (pure (⟨vs, (kws.filterMap (·.1)).zip ks⟩ : Args)) Q E s₄)) fun _ _ x => x)
  simp only [Bool.false_eq_true, if_false]
  exact z
theorem args_many {f : Value} {y : Bool × Sem Value} {b : Bool} {t : Sem Value} {rest : List (Bool × Sem Value)} {keywords : List (Option Str × Sem Value)} {Q : Args → Shared → Prop}
    (hall : keywords.all (·.1.isSome) = true)
    (h : wpAny M A (spliced ((b, t) :: y :: rest)) (fun vs s₁ => wpAny M A (evalAll (keywords.map (·.2))) (fun ks s₂ => Q ⟨vs, (keywords.filterMap (·.1)).zip ks⟩ s₂) E s₁) E s) :
    wpAny M A (evalArgs f true ((b, t) :: y :: rest) keywords) Q E s := by
  unfold evalArgs
  cases b <;>
  · show wpAny M A (spliced _ >>= _) Q E s
    refine wpAny_bind (wpAny_mono h (fun vs s₁ h₁ => ?_) fun _ _ x => x)
    refine wpAny_holding ?_
    simp only [hall, if_true]
    refine wpAny_bind (wpAny_mono h₁ (fun ks s₂ h₂ => ?_) fun _ _ x => x)
    exact wpAny_bind (wpAny_pure (wpAny_pure h₂))
theorem call_star {f : Value} {first : List Value} {pos : Pos} {Q : Value → Shared → Prop} {P : Heap → Prop} {args : List (Bool × Sem Value)} {kws : List (Option Str × Sem Value)} (hst : args.any (·.1) = true)
    (hk : ∀ h, P h → ∃ k, (k = Keeper.frame ∨ k = Keeper.machine ∨ k = Keeper.boundFrame) ∧ PySem.W.Looks M h (keeperOf f) k)
    (h : wpAny M A (evalArgs f true args kws) (fun a s₁ => P s₁.heap ∧ wpAny M A (call f (first ++ a.pos) a.kw) Q E s₁) E s) : wpAny M A (callWith pos f first args kws) Q E s := by
  unfold callWith
  refine wpAny_bind (wpAny_holding (wpAny_mono h (fun a s₁ h₁ => wpAny_bind (wpAny_standAt ?_)) fun _ _ x => x))
  obtain ⟨k, hk', L⟩ := hk _ h₁.1
  simp only [hst, Bool.true_or]
  refine wpAny_bind (L.here ?_)
  have tail : ∀ {t : Sem Value}, wpAny M A t Q E s₁ → wpAny M A (t >>= fun r => holding [r] point >>= fun _ => pure r) Q E s₁ :=
    fun ht => wpAny_bind (wpAny_mono ht (fun r s₂ hr => wpAny_bind (wpAny_holding (wpAny_point (wpAny_pure hr)))) fun _ _ x => x)
  have marked (mk : Value) : wpAny M A (callMarked mk f (first ++ a.pos) a.kw) Q E s₁ := by unfold callMarked; exact Calls.wpAny_keep h₁.2
  rcases hk' with rfl | rfl | rfl <;> dsimp only <;> first | exact tail (marked _) | exact tail (wpAny_operating h₁.2)
theorem withStar1 {K : PySem.W.Frag} {env : Env} {pos p : Pos} {f : Value} {first : List Value} {Q : Value → Shared → Prop} {e : Expr} {kws : List Keyword} (hk : PySem.W.keepIn K f = true) (hall : (backToKw pos (keywordEach kws env)).all (·.1.isSome) = true)
    (h : wpAny M A (eval e env) (fun v s₁ => wpAny M A (evalAll ((backToKw pos (keywordEach kws env)).map (·.2))) (fun ks s₂ => PySem.W.StarOf M A E v (fun vs s₃ => K.In s₃.heap ∧ wpAny M A (call f (first ++ vs) (((backToKw pos (keywordEach kws env)).filterMap (·.1)).zip ks)) Q E s₃) s₂) E s₁) E s)
    (he : starEach [.Starred e p] env = [(true, eval e env)] := by rfl) :
    wpAny M A (callWith pos f first (backTo pos (starEach [.Starred e p] env)) (backToKw pos (keywordEach kws env))) Q E s := by
  rw [he]
  exact call_star rfl (PySem.W.keeps_K hk) (args_lone hall h)
theorem withStarN {K : PySem.W.Frag} {env : Env} {pos : Pos} {f : Value} {first : List Value} {Q : Value → Shared → Prop} {e e2 : Expr} {es : List Expr} {kws : List Keyword} {b b2 : Bool} {t t2 : Sem Value} (hk : PySem.W.keepIn K f = true) (hall : (backToKw pos (keywordEach kws env)).all (·.1.isSome) = true)
    (h : wpAny M A (spliced (backTo pos (starEach (e :: e2 :: es) env))) (fun vs s₁ => wpAny M A (evalAll ((backToKw pos (keywordEach kws env)).map (·.2))) (fun ks s₂ => K.In s₂.heap ∧ wpAny M A (call f (first ++ vs) (((backToKw pos (keywordEach kws env)).filterMap (·.1)).zip ks)) Q E s₂) E s₁) E s)
    (he : starEach (e :: e2 :: es) env = (b, t) :: (b2, t2) :: starEach es env := by rfl) (hst : (backTo pos (starEach (e :: e2 :: es) env)).any (·.1) = true := by rfl) :
    wpAny M A (callWith pos f first (backTo pos (starEach (e :: e2 :: es) env)) (backToKw pos (keywordEach kws env))) Q E s := by
  refine call_star hst (PySem.W.keeps_K hk) ?_
  rw [he] at h ⊢
  exact args_many hall h
end
/-- what lies at f, called with any number of values from np on -/
def RunsS (X : Cx) (f : Addr) (np : Nat) (ks : List Str) (gd : List Vl → List Vl → Mem → Option (R Vl × Mem)) : Prop := ∀ n, np ≤ n → n < sizeLine → Z.Runs X f n ks gd
theorem Sz.sruns {X : Cx} {c : Str} {k np : Nat} {f : Addr} {ks : List Str} {gz : List Vl → List Vl → List Vl} {g : FD} (M : Mk X.K (He.ga X.K c) f) (F : Sz X.prog X.w X.K X.mg X.base k f (np + 1) ks gz g) (hr : Room (k + 1) X.A) : RunsS X (He.ga X.K c) np ks (initD c gz g) := fun n h1 h2 => Sz.mruns M F hr (Nat.succ_le_succ h1) h2
section
variable {X : Cx} {o e e2 : Expr} {es : List Expr} {kws : List Keyword} {pos p apos sp_ : Pos} {de : DE} {d dk : DA} {x c mn : Str} {k n np : Nat} {f : Addr} {ks : List Str} {gz : List Vl → List Vl → List Vl} {g : FD} {gd : List Vl → List Vl → Mem → Option (R Vl × Mem)}
/-- f(*e, k = v, ..) -/
def dCallSt (np j : Nat) (gd : List Vl → List Vl → Mem → Option (R Vl × Mem)) (de : DE) (dk : DA) : DE := fun env m => bindR (de env m) fun x m => bindR (dk env m) fun ys m => match seqD m x with
  | some xs => if np ≤ xs.length ∧ xs.length < sizeLine ∧ ys.length = j then gd xs ys m else none
  | none => none
theorem se_callSt (R : RunsS X f np ks gd) (hk : PySem.W.keepIn X.K (.ref f) = true) (hm : X.mg x = some (.ref f)) (hg : Gl X x) (he : SE X e de) (hkw : SK X kws dk)
    (hall : (backToKw pos (keywordEach kws X.env)).all (·.1.isSome) = true := by rfl) (hks : (backToKw pos (keywordEach kws X.env)).filterMap (·.1) = ks := by rfl) (hdb : (x == ("__debug__" : Str)) = false := by decide)
    (hst : starEach [.Starred e sp_] X.env = [(true, eval e X.env)] := by rfl) : SE X (.Call (.Name x p) [.Starred e sp_] kws pos) (dCallSt np ks.length gd de dk) := ⟨fun W tk => ⟨fun pins s σ H Q I h => by
  obtain ⟨ρ, env, m, z, m', st, ee, pp⟩ := h
  have h' : rdE X.K W de σ H (fun v H1 => rdA X.K W dk σ H1 fun zs H2 => ∃ ρ1 m1 xs ys a vs, v = .ref a ∧ (SqL X.K H2 a vs ∨ SqT X.K H2 a vs) ∧ RM X.K ρ1 m1 H2 ∧ RVs X.K ρ1 H2 xs vs ∧ RVs X.K ρ1 H2 ys zs ∧ np ≤ xs.length ∧ xs.length < sizeLine ∧ ys.length = ks.length ∧ gd xs ys m1 = some (z, m') ∧ Po X.K ρ1 H2 (RV X.K) (fun c dd H' => W c dd σ H') Q z m') :=
    bindE st ee pp fun x m1 ρ1 H1 v s1 E1 r1 e1 p1 => bindA s1 e1 p1 fun ys m2 ρ2 H2 zs s2 E2 r2 e2 p2 => by
      split at e2
      · rename_i xs hx
        split at e2
        · rename_i hn
          obtain ⟨a, vs, rfl, h1, h2⟩ := seqD_ok s2.mem (r1.mono E2) hx
          exact ⟨ρ2, m2, xs, ys, a, vs, rfl, h1, s2.mem, h2, r2, hn.1, hn.2.1, hn.2.2, e2, p2⟩
        · cases e2
      · cases e2
  refine wpAny_Call_Name_kw (ld_glob I hg hm ?_ hdb)
  refine withStar1 hk hall (thn ((he.run W tk).run pins s σ H _ I h') fun u s1 ⟨v, H1, I1, rv, q⟩ => ?_) hst
  refine thn ((hkw.run W tk).run pos pins s1 σ H1 _ I1 q) fun ws s2 ⟨zs, H2, I2, rz, ρ1, m1, xs, ys, a, vs, ev, hs, M1, rx, ry, n1, n2, hy, e1, p1⟩ => ?_
  subst ev
  obtain rfl : u = Value.ref a := rv
  refine StX.star_any I2 hs.symm fun us s3 I3 rus => ⟨I3.kIn, ?_⟩
  rw [hks]
  exact R xs.length n1 n2 tk I3 rus rz M1 rx ry rfl hy e1 p1⟩⟩
/-- f(*e, e2, .., k = v, ..) -/
def dCallSm (np j : Nat) (gd : List Vl → List Vl → Mem → Option (R Vl × Mem)) (d dk : DA) : DE := fun env m => bindR (d env m) fun xs m => bindR (dk env m) fun ys m => if np ≤ xs.length ∧ xs.length < sizeLine ∧ ys.length = j then gd xs ys m else none
theorem se_callSm {b b2 : Bool} {t t2 : Sem Value} (R : RunsS X f np ks gd) (hk : PySem.W.keepIn X.K (.ref f) = true) (hm : X.mg x = some (.ref f)) (hg : Gl X x) (ha : SA X (e :: e2 :: es) d) (hkw : SK X kws dk)
    (hall : (backToKw pos (keywordEach kws X.env)).all (·.1.isSome) = true := by rfl) (hks : (backToKw pos (keywordEach kws X.env)).filterMap (·.1) = ks := by rfl) (hdb : (x == ("__debug__" : Str)) = false := by decide)
    (hes : starEach (e :: e2 :: es) X.env = (b, t) :: (b2, t2) :: starEach es X.env := by rfl) (hst : (backTo pos (starEach (e :: e2 :: es) X.env)).any (·.1) = true := by rfl) : SE X (.Call (.Name x p) (e :: e2 :: es) kws pos) (dCallSm np ks.length gd d dk) := ⟨fun W tk => ⟨fun pins s σ H Q I h => by
  obtain ⟨ρ, env, m, z, m', st, ee, pp⟩ := h
  have h' : rdA X.K W d σ H (fun vs H1 => rdA X.K W dk σ H1 fun zs H2 => ∃ ρ1 m1 xs ys, RM X.K ρ1 m1 H2 ∧ RVs X.K ρ1 H2 xs vs ∧ RVs X.K ρ1 H2 ys zs ∧ np ≤ xs.length ∧ xs.length < sizeLine ∧ ys.length = ks.length ∧ gd xs ys m1 = some (z, m') ∧ Po X.K ρ1 H2 (RV X.K) (fun c dd H' => W c dd σ H') Q z m') :=
    bindA st ee pp fun xs m1 ρ1 H1 vs s1 E1 r1 e1 p1 => bindA s1 e1 p1 fun ys m2 ρ2 H2 zs s2 E2 r2 e2 p2 => by
      split at e2
      · rename_i hn
        exact ⟨ρ2, m2, xs, ys, s2.mem, r1.mono E2, r2, hn.1, hn.2.1, hn.2.2, e2, p2⟩
      · cases e2
  refine wpAny_Call_Name_kw (ld_glob I hg hm ?_ hdb)
  refine withStarN hk hall (thn ((ha.run W tk).run pos pins s σ H _ I h') fun us s1 ⟨vs, H1, I1, r, q⟩ => ?_) hes hst
  refine thn ((hkw.run W tk).run pos pins s1 σ H1 _ I1 q) fun ws s2 ⟨zs, H2, I2, rz, ρ1, m1, xs, ys, M1, rx, ry, n1, n2, hy, e1, p1⟩ => ⟨I2.kIn, ?_⟩
  rw [hks]
  exact R xs.length n1 n2 tk I2 r rz M1 rx ry rfl hy e1 p1⟩⟩
/-- C.m(e, .., k = v, ..), m static -/
theorem se_smethK {pl : Sem Bool} (he : SE X o de) (h : SMd X.K c mn) (F : Fz X.prog X.w X.K X.mg X.base k (smA X.K c mn) n ks gz g) (hr : Room k X.A) (ha : SA X (e :: es) d) (hkw : SK X kws dk)
    (hall : (backToKw pos (keywordEach kws X.env)).all (·.1.isSome) = true := by rfl) (hks : (backToKw pos (keywordEach kws X.env)).filterMap (·.1) = ks := by rfl)
    (hst : starEach (e :: es) X.env = (false, eval e X.env) :: starEach es X.env := by rfl) (hpl : ((backTo pos (starEach (e :: es) X.env)).any (·.1) || (backToKw pos (keywordEach kws X.env)).any (·.1.isNone)) = false := by rfl)
    (ht : eval (.Call (.Attribute o mn apos) (e :: es) kws pos) X.env = (do
      let ov ← eval o X.env
      standAt apos.atName
      let (f, first) ← holding [ov] (getMethod ov mn pl)
      callWith pos f first (backTo pos (starEach (e :: es) X.env)) (backToKw pos (keywordEach kws X.env))) := by rfl) :
    SE X (.Call (.Attribute o mn apos) (e :: es) kws pos) (dSMeth c n ks.length gz g de d dk) := ⟨fun W tk => ⟨fun pins s σ H Q I h0 => by
  obtain ⟨ρ, env, m, z, m', st, ee, pp⟩ := h0
  have h' : rdE X.K W de σ H (fun v H1 => v = .ref (He.ga X.K c) ∧ rdA X.K W d σ H1 fun vs H2 => rdA X.K W dk σ H2 fun zs H3 => ∃ ρ1 m1 xs ys, RM X.K ρ1 m1 H3 ∧ RVs X.K ρ1 H3 xs vs ∧ RVs X.K ρ1 H3 ys zs ∧ xs.length = n ∧ ys.length = ks.length ∧ g (gz xs ys) m1 = some (z, m') ∧ Po X.K ρ1 H3 (RV X.K) (fun c dd H' => W c dd σ H') Q z m') :=
    bindE st ee pp fun x m1 ρ1 H1 v s1 E1 r1 e1 p1 => by
      split at e1
      · rename_i c'
        split at e1
        · rename_i hc
          subst hc
          refine ⟨r1, bindA s1 e1 p1 fun xs m2 ρ2 H2 vs s2 E2 r2 e2 p2 => bindA s2 e2 p2 fun ys m3 ρ3 H3 zs s3 E3 r3 e3 p3 => ?_⟩
          split at e3
          · rename_i hn
            exact ⟨ρ3, m3, xs, ys, s3.mem, r2.mono E3, r3, hn.1, hn.2, e3, p3⟩
          · cases e3
        · cases e1
      · cases e1
  refine PySem.W.methodCall_KW (pl := pl) (thn ((he.run W tk).run pins s σ H _ I h') fun u s1 ⟨x, H1, I1, rx, ex, q⟩ => ?_) ht
  subst ex
  obtain rfl : u = Value.ref (He.ga X.K c) := rx
  refine getsm_ok I1 h fun s2 I2 => ?_
  refine PySem.W.callWith_KW (first := []) (h₀ := X.base) I.ok.mod.kin h.kp hall (thn ((ha.run W tk).run pos pins s2 σ H1 _ I2 q) fun us s3 ⟨vs, H2, I3, r, q3⟩ => ?_) hpl hst
  refine thn ((hkw.run W tk).run pos pins s3 σ H2 _ I3 q3) fun ws s4 ⟨zs, H3, I4, rz, ρ1, m1, xs, ys, M1, rx, ry, hn, hy, e1, p1⟩ => ⟨I4.kIn, ?_⟩
  rw [hks]
  exact F.run hr tk I4 r rz M1 rx ry hn hy e1 p1⟩⟩
end
@[simp] theorem dCallSt_ap {np j : Nat} {gd : List Vl → List Vl → Mem → Option (R Vl × Mem)} {de : DE} {dk : DA} {env : Ev} {m : Mem} : dCallSt np j gd de dk env m = bindR (de env m) fun x m => bindR (dk env m) fun ys m => match seqD m x with
  | some xs => if np ≤ xs.length ∧ xs.length < sizeLine ∧ ys.length = j then gd xs ys m else none
  | none => none := rfl
@[simp] theorem dCallSm_ap {np j : Nat} {gd : List Vl → List Vl → Mem → Option (R Vl × Mem)} {d dk : DA} {env : Ev} {m : Mem} : dCallSm np j gd d dk env m = bindR (d env m) fun xs m => bindR (dk env m) fun ys m => if np ≤ xs.length ∧ xs.length < sizeLine ∧ ys.length = j then gd xs ys m else none := rfl
end Z
namespace Z
open PySem PySem.Spec PyProof.Rows L2
variable [Kd]
/-! ### dicts whose keys are written tuples -/
section
variable {K : PySem.W.Frag} {ρ : Lay} {H : Hp}
theorem rts_val : ∀ {ks : List (List Key × Vl)} {vs : List (List Key × V)} (k : List Key), RTs K ρ H ks vs → (lookZ ks k = none ∧ valV vs k = none) ∨ ∃ x v, lookZ ks k = some x ∧ valV vs k = some v ∧ RV K ρ H x v
  | [], vs, k, h => by
    obtain rfl : vs = [] := h
    exact .inl ⟨rfl, rfl⟩
  | (j, x) :: ks, vs, k, ⟨v, r, e, h1, h2⟩ => by
    subst e
    by_cases q : j = k
    · exact .inr ⟨x, v, by simp [lookZ, q], by simp [valV, q], h1⟩
    · have ih := rts_val k h2
      have e1 : lookZ ((j, x) :: ks) k = lookZ ks k := by simp [lookZ, List.find?_cons, q]
      have e2 : valV ((j, v) :: r) k = valV r k := by simp [valV, List.find?_cons, q]
      rw [e1, e2]
      exact ih
theorem rts_any : ∀ {ks : List (List Key × Vl)} {vs : List (List Key × V)} (k : List Key), RTs K ρ H ks vs → (ks.any fun p => decide (p.1 = k)) = vs.any fun p => decide (p.1 = k)
  | [], vs, k, h => by
    obtain rfl : vs = [] := h
    rfl
  | (j, x) :: ks, vs, k, ⟨v, r, e, h1, h2⟩ => by
    subst e
    rw [List.any_cons, List.any_cons, rts_any k h2]
theorem rts_app : ∀ {ks js : List (List Key × Vl)} {vs ws : List (List Key × V)}, RTs K ρ H ks vs → RTs K ρ H js ws → RTs K ρ H (ks ++ js) (vs ++ ws)
  | [], js, vs, ws, h, g => by
    obtain rfl : vs = [] := h
    exact g
  | (j, x) :: ks, js, vs, ws, ⟨v, r, e, h1, h2⟩, g => by
    subst e
    exact ⟨v, r ++ ws, rfl, h1, rts_app h2 g⟩
theorem rts_map1 {k : List Key} {y : Vl} {w : V} (q : RV K ρ H y w) : ∀ {ks : List (List Key × Vl)} {vs : List (List Key × V)}, RTs K ρ H ks vs → RTs K ρ H (ks.map fun p => if p.1 = k then (p.1, y) else p) (vs.map fun p => if p.1 = k then (p.1, w) else p)
  | [], vs, h => by
    obtain rfl : vs = [] := h
    exact rfl
  | (j, x) :: ks, vs, ⟨v, r, e, h1, h2⟩ => by
    subst e
    have ih := rts_map1 (k := k) q h2
    by_cases c : j = k
    · simp only [List.map_cons, c, if_true]
      exact ⟨w, _, rfl, q, ih⟩
    · simp only [List.map_cons, c, if_false]
      exact ⟨v, _, rfl, h1, ih⟩
theorem rts_put {ks : List (List Key × Vl)} {vs : List (List Key × V)} (k : List Key) {y : Vl} {w : V} (h : RTs K ρ H ks vs) (q : RV K ρ H y w) : RTs K ρ H (putZ ks k y) (putK vs k w) := by
  unfold putZ putK
  rw [rts_any k h]
  split
  · exact rts_map1 q h
  · exact rts_app h ⟨w, [], rfl, q, rfl⟩
theorem rts_len : ∀ {ks : List (List Key × Vl)} {vs : List (List Key × V)}, RTs K ρ H ks vs → ks.length = vs.length
  | [], vs, h => by
    obtain rfl : vs = [] := h
    rfl
  | (j, x) :: ks, vs, ⟨v, r, e, h1, h2⟩ => by
    subst e
    rw [List.length_cons, List.length_cons, rts_len h2]
theorem keys_ok : ∀ {xs : List Vl} {vs : List V} {k : List Key}, mapO keyD xs = some k → RVs K ρ H xs vs → vs = k.map kV
  | [], vs, k, h, r => by
    cases h
    exact r
  | x :: xs, vs, k, h, r => by
    obtain ⟨v, ws, rfl, h2, h3⟩ := r
    unfold mapO at h
    cases hk : keyD x with
    | none =>
      rw [hk] at h
      cases h
    | some j =>
      cases hks : mapO keyD xs with
      | none =>
        rw [hk, hks] at h
        cases h
      | some js =>
        rw [hk, hks] at h
        cases h
        rw [keyD_ok hk h2, keys_ok hks h3]
        rfl
def ditD (m : Mem) : Vl → Option (List (List Key × Vl))
  | .obj n => (match m[n]? with
    | some (.dit ks) => some ks
    | _ => none)
  | _ => none
theorem ditD_ok {m : Mem} {x : Vl} {v : V} {ks : List (List Key × Vl)} (M : RM K ρ m H) (r : RV K ρ H x v) (h : ditD m x = some ks) : ∃ a vs, v = .ref a ∧ H a = some (.dT vs) ∧ RTs K ρ H ks vs := by
  unfold ditD at h
  split at h
  · rename_i n
    split at h
    · rename_i js hy
      cases h
      obtain ⟨p, rfl, hp⟩ := r
      obtain ⟨gs, h1, h2⟩ := M.at_ _ _ _ hy hp
      exact ⟨p, gs, rfl, h1, h2⟩
    · cases h
  · cases h
theorem ext_tup {ρ1 ρ2 : Lay} {H1 H2 : Hp} {m : Mem} {p : Addr} {vs : List V} (M : RM K ρ1 m H1) (hp : H1 p = none) (E : Ext ρ1 (upd H1 p (.tup vs)) ρ2 H2) : H2 p = some (.tup vs) := E.keep p _ upd_same (M.fresh hp)
end
section
variable {X : Cx} {a b e o value : Expr} {es : List Expr} {pos pos' tpos p : Pos} {n : Nat} {da db do' dv : DE} {d : DA}
/-- {} -/
def dNewT : DE := fun _ m => some (.ok (.obj m.length), m ++ [.dit []])
theorem se_dnewT : SE X (.Dict [] [] pos) dNewT := ⟨fun W tk => impPE pe_dnewT fun σ H Q ⟨ρ, env, m, z, m', s, e, pp⟩ => by
  cases e
  intro q hq
  obtain ⟨M, E, r⟩ := new_cel (o := .dT []) (c := .dit []) s.mem hq rfl ⟨[], upd_same, rfl⟩
  exact pp _ _ M E _ r⟩
/-- (e, ..) in o -/
def dInT (neg : Bool) (d : DA) (db : DE) : DE := fun env m => bindR (d env m) fun xs m => if xs.length ≤ sizeLine then bindR (db env m) fun y m => match mapO keyD xs, ditD m y with
  | some k, some ks => some (.ok (.bl (if neg then !(lookZ ks k).isSome else (lookZ ks k).isSome)), m)
  | _, _ => none else none
theorem din_t {K : PySem.W.Frag} {ρ : Lay} {m : Mem} {H : Hp} {y : Vl} {u : V} {q : Addr} {vs : List V} {ks : List (List Key × Vl)} {k : List Key} (M : RM K ρ m H) (hq : H q = some (.tup vs)) (hv : vs = k.map kV) (r2 : RV K ρ H y u) (hd : ditD m y = some ks) : ∃ a o, u = .ref a ∧ DGet H a (.ref q) o ∧ o.isSome = (lookZ ks k).isSome := by
  obtain ⟨a, ws, rfl, h3, h4⟩ := ditD_ok M r2 hd
  subst hv
  refine ⟨a, _, rfl, DGet.t h3 hq, ?_⟩
  rcases rts_val k h4 with ⟨h5, h6⟩ | ⟨x', v', h5, h6, h7⟩ <;> rw [h5, h6] <;> rfl
theorem se_dinT (hu : X.A.units + 1 < cLine) (ha : SA X es d) (hb : SE X b db) (hm : behindInMarks .In b = false := by rfl) : SE X (.Compare (.Tuple es n tpos) [.In] [b] pos) (dInT false d db) := ⟨fun W tk => impPE (pe_cmp (pc_din hu (pe_tup (ha.run W tk)) (hb.run W tk)) hm) fun σ H Q ⟨ρ, env, m, z, m', s, e, p⟩ =>
  bindA s e p fun xs m1 ρ1 H1 vs s1 E1 r1 e1 p1 => by
    split at e1
    · rename_i hz
      refine ⟨by rw [← r1.length]; exact hz, fun q hq => ?_⟩
      have E2 := ext_new (ρ := ρ1) (o := HO.tup vs) hq
      refine bindE (⟨s1.mem.laid hq, s1.env.mono E2⟩ : S X.K ρ1 env m1 σ (upd H1 q (.tup vs))) e1 (p1.mono E2) fun y m2 ρ2 H2 u s2 E3 r2 e2 p2 => ?_
      split at e2
      · rename_i k ks hk hd
        cases e2
        obtain ⟨a, o, rfl, g, h3⟩ := din_t s2.mem (ext_tup s1.mem hq E3) (keys_ok hk r1) r2 hd
        exact ⟨a, o, rfl, g, p2 ρ2 H2 s2.mem .refl _ (by rw [h3]; rfl)⟩
      · cases e2
    · cases e1⟩
theorem se_dnotinT (hu : X.A.units + 1 < cLine) (ha : SA X es d) (hb : SE X b db) (hm : behindInMarks .NotIn b = false := by rfl) : SE X (.Compare (.Tuple es n tpos) [.NotIn] [b] pos) (dInT true d db) := ⟨fun W tk => impPE (pe_cmp (pc_dnotin hu (pe_tup (ha.run W tk)) (hb.run W tk)) hm) fun σ H Q ⟨ρ, env, m, z, m', s, e, p⟩ =>
  bindA s e p fun xs m1 ρ1 H1 vs s1 E1 r1 e1 p1 => by
    split at e1
    · rename_i hz
      refine ⟨by rw [← r1.length]; exact hz, fun q hq => ?_⟩
      have E2 := ext_new (ρ := ρ1) (o := HO.tup vs) hq
      refine bindE (⟨s1.mem.laid hq, s1.env.mono E2⟩ : S X.K ρ1 env m1 σ (upd H1 q (.tup vs))) e1 (p1.mono E2) fun y m2 ρ2 H2 u s2 E3 r2 e2 p2 => ?_
      split at e2
      · rename_i k ks hk hd
        cases e2
        obtain ⟨a, o, rfl, g, h3⟩ := din_t s2.mem (ext_tup s1.mem hq E3) (keys_ok hk r1) r2 hd
        exact ⟨a, o, rfl, g, p2 ρ2 H2 s2.mem .refl _ (by rw [h3]; rfl)⟩
      · cases e2
    · cases e1⟩
/-- o[e, ..] = v -/
def dPutT (do' : DE) (d : DA) (dv : DE) : DS := fun env m => bindS (dv env m) env fun v m => bindS (do' env m) env fun x m => bindS (d env m) env fun xs m => match x, mapO keyD xs with
  | .obj n, some k => (match m[n]? with
    | some (.dit ks) => if xs.length ≤ sizeLine ∧ ks.length < sizeLine then some (.nx env, m.set n (.dit (putZ ks k v))) else none
    | _ => none)
  | _, _ => none
theorem ss_dputT (hu : X.A.units + 1 < cLine) (ho : SE X o do') (ha : SA X es d) (hv : SE X value dv) (hs : swapsWith value (some (.Subscript o (.Tuple es n tpos) pos')) pos.line X.env = pure false := by rfl) : SS X (.Assign [.Subscript o (.Tuple es n tpos) pos'] value pos) (dPutT do' d dv) := ⟨fun W tk =>
  impPS (ps_dput hu (ho.run W tk) (pe_tup (ha.run W tk)) (hv.run W tk) hs) fun D σ H ⟨ρ, env, m, f, m', s, e, p⟩ =>
    sbE s e p fun v m1 ρ1 H1 vv s1 E1 r1 e1 p1 => sbE s1 e1 p1 fun x m2 ρ2 H2 u s2 E2 r2 e2 p2 => sbA s2 e2 p2 fun xs m3 ρ3 H3 ws s3 E3 r3 e3 p3 => by
      split at e3
      · rename_i n k hk
        split at e3
        · rename_i ks hn
          split at e3
          · rename_i hz
            cases e3
            refine ⟨by rw [← r3.length]; exact hz.1, fun q hq => ?_⟩
            obtain ⟨a, rfl, ha⟩ := r2.mono E3
            obtain ⟨vs, h1, h2⟩ := s3.mem.at_ _ _ _ hn ha
            have E4 := ext_new (ρ := ρ3) (o := HO.tup ws) hq
            have M4 := s3.mem.laid (o := HO.tup ws) hq
            have hne : a ≠ q := ne_of_none h1 hq
            have h1' : (upd H3 q (.tup ws)) a = some (.dT vs) := by
              rw [upd_ne hne]
              exact h1
            have E5 : Ext ρ3 (upd H3 q (.tup ws)) ρ3 (upd (upd H3 q (.tup ws)) a (.dT (putK vs k vv))) := ext_set (List.mem_of_getElem? ha)
            have EE := E4.trans E5
            have rv := ((r1.mono E2).mono E3).mono EE
            have M5 := M4.put (o := .dT (putK vs k vv)) (c := .dit (putZ ks k v)) ha ⟨_, upd_same, rts_put k (RTs.mono EE ks h2) rv⟩
            have hk2 : ws = k.map kV := keys_ok hk r3
            exact ⟨a, _, rfl, DPut.t h1' (by rw [upd_same, hk2]) (by rw [← rts_len h2]; exact hz.2), p3 ρ3 _ M5 EE σ (s3.env.mono EE)⟩
          · cases e3
        · cases e3
      · cases e3⟩
end
@[simp] theorem dNewT_ap {env : Ev} {m : Mem} : dNewT env m = some (.ok (.obj m.length), m ++ [.dit []]) := rfl
@[simp] theorem dInT_ap {neg : Bool} {d : DA} {db : DE} {env : Ev} {m : Mem} : dInT neg d db env m = bindR (d env m) fun xs m => if xs.length ≤ sizeLine then bindR (db env m) fun y m => match mapO keyD xs, ditD m y with
  | some k, some ks => some (.ok (.bl (if neg then !(lookZ ks k).isSome else (lookZ ks k).isSome)), m)
  | _, _ => none else none := rfl
@[simp] theorem dPutT_ap {do' : DE} {d : DA} {dv : DE} {env : Ev} {m : Mem} : dPutT do' d dv env m = bindS (dv env m) env fun v m => bindS (do' env m) env fun x m => bindS (d env m) env fun xs m => match x, mapO keyD xs with
  | .obj n, some k => (match m[n]? with
    | some (.dit ks) => if xs.length ≤ sizeLine ∧ ks.length < sizeLine then some (.nx env, m.set n (.dit (putZ ks k v))) else none
    | _ => none)
  | _, _ => none := rfl
theorem ditD_obj {m : Mem} {n : Nat} {ks : List (List Key × Vl)} (h : m[n]? = some (.dit ks)) : ditD m (.obj n) = some ks := by
  unfold ditD
  simp only [h]
/-! ### built-ins that give a new list -/
def SLF (K : PySem.W.Frag) (f : Mem → List Vl → Option (List Vl)) (r : List V → Hp → VK → Prop) : Prop := ∀ (ρ : Lay) (m : Mem) (H : Hp) (xs : List Vl) (vs : List V) (ys : List Vl) (Q : VK), RM K ρ m H → RVs K ρ H xs vs → f m xs = some ys → (∀ ws, RVs K ρ H ys ws → ws.length ≤ sizeLine → ∀ l, H l = none → Q (.ref l) (upd H l (.lst ws))) → r vs H Q
def dLF (f : Mem → List Vl → Option (List Vl)) (d : DA) : DA := fun env m => bindR (d env m) fun xs m => match f m xs with
  | some ys => some (.ok ys, m)
  | none => none
@[simp] theorem dLF_ap {f : Mem → List Vl → Option (List Vl)} {d : DA} {env : Ev} {m : Mem} : dLF f d env m = bindR (d env m) fun xs m => match f m xs with
  | some ys => some (.ok ys, m)
  | none => none := rfl
theorem sl_callB {X : Cx} {e : Expr} {es : List Expr} {p pos : Pos} {d : DA} {x : Str} {id : String} {r : List V → Hp → VK → Prop} {f : Mem → List Vl → Option (List Vl)} (hc : CallR X (.builtin id) r) (hf : SLF X.K f r) (hg : Gl X x) (hm : X.mg x = none) (hv : bootBuiltins x = some (.builtin id)) (ha : SA X (e :: es) d) (hn : x ≠ "__name__" := by decide) (hdb : (x == ("__debug__" : Str)) = false := by decide)
    (he : starEach (e :: es) X.env = (false, eval e X.env) :: starEach es X.env := by rfl) (hpl : (backTo pos (starEach es X.env)).any (·.1) = false := by rfl) : SL X (.Call (.Name x p) (e :: es) [] pos) (dLF f d) := ⟨fun W tk => impPE (pe_callB hc hg hm hv (ha.run W tk) hn hdb he hpl) fun σ H Q ⟨ρ, env, m, z, m', s, e, p⟩ => by
    unfold dLF bindR at e
    split at e
    · cases e
    · rename_i xs m1 h0
      refine goA s h0 fun ρ' H' vs s' E r => ?_
      dsimp only at e
      split at e
      · rename_i ys hy
        cases e
        exact hf ρ' _ H' xs vs ys Q s'.mem r hy fun ws h4 hz l hl => p ρ' _ (s'.mem.laid hl) (E.trans (ext_new hl)) _ ⟨l, ws, rfl, ⟨s'.mem.fresh hl, s'.mem.freshz hl, E.none hl⟩, upd_same, hz, h4.mono (ext_new hl)⟩
      · cases e
    · rename_i c fs m1 h0
      cases e
      exact exA s h0 fun ρ' H' dd s' E r => p ρ' H' s'.mem E dd r⟩
/-- sorted(d) of int keys -/
def isort (ks : List Int) : List Int := ks.mergeSort fun a b => decide (a ≤ b)
theorem isort_perm (ks : List Int) : (isort ks).Perm ks := List.mergeSort_perm ks _
theorem isort_pw (ks : List Int) : (isort ks).Pairwise (· ≤ ·) := by
  have h := List.pairwise_mergeSort (le := fun a b : Int => decide (a ≤ b)) (fun a b c h1 h2 => by
    rw [decide_eq_true_eq] at *
    omega) (fun a b => by
    rw [Bool.or_eq_true, decide_eq_true_eq, decide_eq_true_eq]
    omega) ks
  exact h.imp fun h => of_decide_eq_true h
theorem isort_eq {ks ys : List Int} (hp : ys.Perm ks) (hs : ys.Pairwise (· ≤ ·)) : ys = isort ks := List.Perm.eq_of_pairwise (fun a b _ _ h1 h2 => by omega) hs (isort_pw ks) (hp.trans (isort_perm ks).symm)
def keyI : Key → Option Int
  | .inl i => some i
  | .inr _ => none
def sortKD : Mem → List Vl → Option (List Vl) := fun m xs => match xs with
  | [x] => (match dicD m x with
    | some ks => (match mapO (fun p => keyI p.1) ks with
      | some is => if is.length < 64 then some ((isort is).map .int) else none
      | none => none)
    | none => none)
  | _ => none
theorem rks_keys {K : PySem.W.Frag} {ρ : Lay} {H : Hp} : ∀ {ks : List (Key × Vl)} {vs : List (Key × V)}, RKs K ρ H ks vs → vs.map (·.1) = ks.map (·.1)
  | [], vs, h => by
    obtain rfl : vs = [] := h
    rfl
  | (j, x) :: ks, vs, ⟨v, r, e, h1, h2⟩ => by
    subst e
    rw [List.map_cons, List.map_cons, rks_keys h2]
theorem keysI : ∀ {ks : List (Key × Vl)} {is : List Int}, mapO (fun p => keyI p.1) ks = some is → ks.map (·.1) = is.map Sum.inl
  | [], is, h => by
    cases h
    rfl
  | (j, x) :: ks, is, h => by
    unfold mapO at h
    cases j with
    | inr s => cases h
    | inl i =>
      cases hk : mapO (fun p : Key × Vl => keyI p.1) ks with
      | none =>
        rw [hk] at h
        cases h
      | some js =>
        rw [hk] at h
        cases h
        rw [List.map_cons, List.map_cons, keysI hk]
theorem rvs_ints {K : PySem.W.Frag} {ρ : Lay} {H : Hp} : ∀ ns : List Int, RVs K ρ H (ns.map Vl.int) (ns.map V.int)
  | [] => rfl
  | n :: ns => ⟨_, _, rfl, rfl, rvs_ints ns⟩
theorem rvs_ints_eq {K : PySem.W.Frag} {ρ : Lay} {H : Hp} : ∀ {ns : List Int} {ws : List V}, RVs K ρ H (ns.map Vl.int) ws → ws = ns.map V.int
  | [], ws, h => h
  | n :: ns, ws, ⟨v, r, e, h1, h2⟩ => by
    rw [e, show v = V.int n from h1, rvs_ints_eq h2]
    rfl
theorem slf_sortKD {K : PySem.W.Frag} : SLF K sortKD (fun xs H Q => ∃ (a : Addr) (kvs : List (Key × V)) (ks : List Int), xs = [.ref a] ∧ Rd H a (.dK kvs) ∧ kvs.map (·.1) = ks.map Sum.inl ∧ ks.length < 64 ∧
    ∀ (ys : List Int) (p : Addr), ys.Perm ks → ys.Pairwise (· ≤ ·) → H p = none → Q (.ref p) (upd H p (.lst (ys.map V.int)))) := fun ρ m H xs vs ys Q M a e k => by
  unfold sortKD at e
  split at e
  · rename_i x
    split at e
    · rename_i ks hk
      split at e
      · rename_i is hi
        split at e
        · rename_i hz
          cases e
          obtain ⟨v, t, rfl, h1, h2⟩ := a
          subst h2
          obtain ⟨q, ws, rfl, h3, h4⟩ := dicD_ok M h1 hk
          refine ⟨q, ws, is, rfl, .inl h3, (rks_keys h4).trans (keysI hi), hz, fun ys p hp hs hn => ?_⟩
          rw [isort_eq hp hs]
          exact k _ (rvs_ints _) (by rw [List.length_map, (isort_perm is).length_eq]; exact Nat.le_trans (Nat.le_of_lt hz) (by decide)) p hn
        · cases e
      · cases e
    · cases e
  · cases e
/-- sorted(xs) of triples -/
def tup3 : Vl → Option (List Int)
  | .tup [.int a, .int b, .int c] => if (decide (0 ≤ a ∧ a < 1000) && (decide (0 ≤ b ∧ b < 1000) && decide (0 ≤ c ∧ c < 1000))) = true then some [a, b, c] else none
  | _ => none
def code3 (x : Vl) : Int := match tup3 x with
  | some ns => TS.code 1000 ns
  | none => 0
def usort (xs : List Vl) : List Vl := xs.mergeSort fun x y => decide (code3 x ≤ code3 y)
theorem usort_perm (xs : List Vl) : (usort xs).Perm xs := List.mergeSort_perm xs _
theorem usort_pw (xs : List Vl) : (usort xs).Pairwise fun x y => code3 x ≤ code3 y := by
  have h := List.pairwise_mergeSort (le := fun x y : Vl => decide (code3 x ≤ code3 y)) (fun a b c h1 h2 => by
    rw [decide_eq_true_eq] at *
    omega) (fun a b => by
    rw [Bool.or_eq_true, decide_eq_true_eq, decide_eq_true_eq]
    omega) xs
  exact h.imp fun h => of_decide_eq_true h
theorem tup3_of {x : Vl} {ns : List Int} (h : tup3 x = some ns) : ∃ a b c : Int, x = .tup [.int a, .int b, .int c] ∧ ns = [a, b, c] ∧ (0 ≤ a ∧ a < 1000) ∧ (0 ≤ b ∧ b < 1000) ∧ (0 ≤ c ∧ c < 1000) := by
  unfold tup3 at h
  split at h
  · rename_i a b c
    split at h
    · rename_i hc
      cases h
      simp only [Bool.and_eq_true, decide_eq_true_eq] at hc
      exact ⟨a, b, c, rfl, rfl, hc.1, hc.2.1, hc.2.2⟩
    · cases h
  · cases h
theorem code_three (a b c : Int) : TS.code 1000 [a, b, c] = a * 1000000 + b * 1000 + c := by
  have h : TS.code 1000 [a, b, c] = a * (1000 ^ 2) + (b * (1000 ^ 1) + (c * (1000 ^ 0) + 0)) := rfl
  rw [h]
  omega
theorem code3_inj {x y : Vl} {ns ms : List Int} (hx : tup3 x = some ns) (hy : tup3 y = some ms) (h : code3 x = code3 y) : x = y := by
  have e1 : code3 x = TS.code 1000 ns := by unfold code3; rw [hx]
  have e2 : code3 y = TS.code 1000 ms := by unfold code3; rw [hy]
  obtain ⟨a, b, c, rfl, rfl, a1, b1, c1⟩ := tup3_of hx
  obtain ⟨a', b', c', rfl, rfl, a2, b2, c2⟩ := tup3_of hy
  rw [e1, e2, code_three, code_three] at h
  obtain ⟨h1, h2, h3⟩ : a = a' ∧ b = b' ∧ c = c' := by omega
  rw [h1, h2, h3]
theorem usort_eq {xs ys : List Vl} (h3 : ∀ x ∈ xs, (tup3 x).isSome = true) (hp : ys.Perm xs) (hs : ys.Pairwise fun x y => code3 x ≤ code3 y) : ys = usort xs := List.Perm.eq_of_pairwise (le := fun x y => code3 x ≤ code3 y) (fun a b ha hb h1 h2 => by
  obtain ⟨n1, e1⟩ := Option.isSome_iff_exists.mp (h3 a (hp.mem_iff.mp ha))
  obtain ⟨n2, e2⟩ := Option.isSome_iff_exists.mp (h3 b ((usort_perm xs).mem_iff.mp hb))
  exact code3_inj e1 e2 (by omega)) hs (usort_pw xs) (hp.trans (usort_perm xs).symm)
theorem rvs_perm {K : PySem.W.Frag} {ρ : Lay} {H : Hp} {ws ys : List V} (h : ys.Perm ws) : ∀ {xs : List Vl}, RVs K ρ H xs ws → ∃ xs', xs'.Perm xs ∧ RVs K ρ H xs' ys := by
  induction h with
  | nil => exact fun {xs} r => ⟨xs, .refl _, r⟩
  | cons v _ ih =>
    intro xs r
    cases xs with
    | nil => cases r
    | cons x xs =>
      obtain ⟨u, t, e, h1, h2⟩ := r
      cases e
      obtain ⟨xs', p, q⟩ := ih h2
      exact ⟨x :: xs', p.cons x, _, _, rfl, h1, q⟩
  | swap v w l =>
    intro xs r
    cases xs with
    | nil => cases r
    | cons x xs =>
      obtain ⟨u, t, e, h1, h2⟩ := r
      cases e
      cases xs with
      | nil => cases h2
      | cons y xs =>
        obtain ⟨u, t, e, h3, h4⟩ := h2
        cases e
        exact ⟨y :: x :: xs, .swap _ _ _, _, _, rfl, h3, _, _, rfl, h1, h4⟩
  | trans _ _ ih1 ih2 =>
    intro xs r
    obtain ⟨x2, p2, r2⟩ := ih2 r
    obtain ⟨x1, p1, r1⟩ := ih1 r2
    exact ⟨x1, p1.trans p2, r1⟩
def sortUD : Mem → List Vl → Option (List Vl) := fun m xs => match xs with
  | [x] => (match lsD m x with
    | some ys => if (decide (ys.length < 64) && ys.all fun y => (tup3 y).isSome) = true then some (usort ys) else none
    | none => none)
  | _ => none
theorem tupI_of {K : PySem.W.Frag} {ρ : Lay} {H : Hp} {x : Vl} {v : V} {ns : List Int} (r : RV K ρ H x v) (h : tup3 x = some ns) : TupI K H v ns ∧ ns.length = 3 ∧ TS.Bd 1000 ns := by
  obtain ⟨a, b, c, rfl, rfl, a1, b1, c1⟩ := tup3_of h
  obtain ⟨q, vs, rfl, h1, h2⟩ := r
  have e : vs = [a, b, c].map V.int := rvs_ints_eq (ns := [a, b, c]) h2
  subst e
  refine ⟨⟨q, rfl, h1.sq⟩, rfl, fun m hm => ?_⟩
  simp only [List.mem_cons, List.not_mem_nil, or_false] at hm
  rcases hm with rfl | rfl | rfl
  · exact a1
  · exact b1
  · exact c1
theorem pw_rvs {K : PySem.W.Frag} {ρ : Lay} {H : Hp} : ∀ {xs : List Vl} {ys : List V}, RVs K ρ H xs ys → (∀ x ∈ xs, (tup3 x).isSome = true) → ys.Pairwise (fun x y => ∀ n m, TupI K H x n → TupI K H y m → TS.code 1000 n ≤ TS.code 1000 m) → xs.Pairwise fun x y => code3 x ≤ code3 y
  | [], ys, _, _, _ => .nil
  | x :: xs, ys, r, h3, hp => by
    obtain ⟨u, t, rfl, h1, h2⟩ := r
    rw [List.pairwise_cons] at hp
    refine List.Pairwise.cons (fun y hy => ?_) (pw_rvs h2 (fun y hy => h3 y (List.mem_cons_of_mem _ hy)) hp.2)
    obtain ⟨i, hi⟩ := List.getElem?_of_mem hy
    obtain ⟨w, hw, rw⟩ := h2.get hi
    obtain ⟨n1, e1⟩ := Option.isSome_iff_exists.mp (h3 x (List.mem_cons_self ..))
    obtain ⟨n2, e2⟩ := Option.isSome_iff_exists.mp (h3 y (List.mem_cons_of_mem _ hy))
    have z := hp.1 w (List.mem_of_getElem? hw) n1 n2 (tupI_of h1 e1).1 (tupI_of rw e2).1
    unfold code3
    rw [e1, e2]
    exact z
theorem slf_sortUD {K : PySem.W.Frag} : SLF K sortUD (rSortU K 3 1000) := fun ρ m H xs vs ys Q M a e k => by
  unfold sortUD at e
  split at e
  · rename_i x
    split at e
    · rename_i zs hz
      split at e
      · rename_i hc
        cases e
        simp only [Bool.and_eq_true, decide_eq_true_eq, List.all_eq_true] at hc
        obtain ⟨v, t, rfl, h1, h2⟩ := a
        subst h2
        obtain ⟨q, ws, rfl, h3, h4⟩ := lsD_ok M h1 hz
        refine ⟨q, ws, rfl, SqL.of h3, by rw [← h4.length]; exact hc.1, fun w hw => ?_, fun ys p hp hs hn => ?_⟩
        · obtain ⟨i, hi⟩ := List.getElem?_of_mem hw
          have hi' : i < zs.length := by
            rw [h4.length]
            exact getlt hi
          obtain ⟨w', e1, r1⟩ := h4.get (List.getElem?_eq_getElem hi')
          rw [hi] at e1
          cases e1
          obtain ⟨n1, e2⟩ := Option.isSome_iff_exists.mp (hc.2 _ (List.getElem_mem hi'))
          exact ⟨n1, tupI_of r1 e2⟩
        · obtain ⟨xs', p1, r1⟩ := rvs_perm hp h4
          have ha : ∀ x ∈ xs', (tup3 x).isSome = true := fun x hx => hc.2 x (p1.mem_iff.mp hx)
          rw [← usort_eq hc.2 p1 (pw_rvs r1 ha hs)] at k
          exact k ys r1 (by rw [← r1.length, p1.length_eq]; exact Nat.le_trans (Nat.le_of_lt hc.1) (by decide)) p hn
      · cases e
    · cases e
  · cases e
section
variable {X : Cx} {e : Expr} {p pos : Pos} {d : DA}
theorem sl_sortD (hc : X.calm = true) (hg : Gl X "sorted") (hm : X.mg "sorted" = none) (ha : SA X [e] d) (he : starEach [e] X.env = (false, eval e X.env) :: starEach [] X.env := by rfl) : SL X (.Call (.Name "sorted" p) [e] [] pos) (dLF sortKD d) := sl_callB (call_sortedDI hc) slf_sortKD hg hm (by decide +kernel) ha (by decide) (by decide) he rfl
theorem sl_sortU (hc : X.calm = true) (hg : Gl X "sorted") (hm : X.mg "sorted" = none) (ha : SA X [e] d) (he : starEach [e] X.env = (false, eval e X.env) :: starEach [] X.env := by rfl) : SL X (.Call (.Name "sorted" p) [e] [] pos) (dLF sortUD d) := sl_callB (cr_sortT (by decide)) slf_sortUD hg hm (by decide +kernel) ha (by decide) (by decide) he rfl
end
end Z
namespace Z
open PySem PySem.Spec PyProof.Rows L2
variable [Kd]
section
variable {X : Cx} {a b e : Expr} {es : List Expr} {pos p : Pos} {da db : DE} {d : DA} {c : Str} {f : Addr} {ts : List TD} {k : Nat} {gz : List Vl → List Vl → List Vl} {g : FD}
/-! ### len(o), o an instance of an own class -/
def dLenO (c : Str) (gz : List Vl → List Vl → List Vl) (g : FD) (d : DA) : DE := fun env m => bindR (d env m) fun xs m => match xs with
  | [x] => (match insD m x with
    | some (c', _) => if c' = c then (match g (gz [x] []) m with
      | some (.ok (.int n), m') => if (decide (0 ≤ n) && decide (n < 2 ^ 63)) = true then some (.ok (.int n), m') else none
      | _ => none) else none
    | none => none)
  | _ => none
theorem se_lenO (hg : Gl X "len") (hm : X.mg "len" = none) (O : OwnM X.K c "__len__" f ts) (F : Fz X.prog X.w X.K X.mg X.base k f 1 [] gz g) (hr : Room (k + 1) X.A) (ha : SA X (e :: es) d)
    (he : starEach (e :: es) X.env = (false, eval e X.env) :: starEach es X.env := by rfl) (hpl : (backTo pos (starEach es X.env)).any (·.1) = false := by rfl) : SE X (.Call (.Name "len" p) (e :: es) [] pos) (dLenO c gz g d) := ⟨fun W tk => ⟨fun pins s σ H Q I h => by
  obtain ⟨ρ, env, m, z, m', st, ee, pp⟩ := h
  have h' : rdA X.K W d σ H (fun vs H1 => ∃ q dx gs ρ1 m1 xs n, vs = [.ref q] ∧ H1 q = some (.ins (He.ga X.K c) dx gs) ∧ RM X.K ρ1 m1 H1 ∧ RVs X.K ρ1 H1 xs [.ref q] ∧ xs.length = 1 ∧ g (gz xs []) m1 = some (.ok (.int n), m') ∧ (0 ≤ n ∧ n < 2 ^ 63) ∧ Po X.K ρ1 H1 (RV X.K) (fun c dd H' => W c dd σ H') Q (.ok (.int n)) m') :=
    bindA st ee pp fun xs m1 ρ1 H1 vs s1 E1 r1 e1 p1 => by
      split at e1
      · rename_i x
        split at e1
        · rename_i c' fs hi
          split at e1
          · rename_i hc
            subst hc
            split at e1
            · rename_i n m2 hgn
              split at e1
              · rename_i hn
                cases e1
                rw [Bool.and_eq_true, decide_eq_true_eq, decide_eq_true_eq] at hn
                obtain ⟨v, t, rfl, h1, h2⟩ := r1
                subst h2
                obtain ⟨q, dx, gs, rfl, h3, h4⟩ := insD_ok s1.mem h1 hi
                exact ⟨q, dx, gs, ρ1, m1, [x], n, rfl, h3, s1.mem, ⟨_, _, rfl, h1, rfl⟩, rfl, hgn, hn, p1⟩
              · cases e1
            · cases e1
          · cases e1
        · cases e1
      · cases e1
  refine wpAny_Call_Name_kw (ld_blt I hg hm (show bootBuiltins "len" = some (.builtin "len") by decide +kernel) ?_ (by decide) (by decide))
  refine PyProof.Rows.callWith_builtin1 (thn ((ha.run W tk).run pos pins s σ H _ I h') fun us s1 ⟨vs, H1, I1, rv, q, dx, gs, ρ1, m1, xs, n, ev, hq, M1, rx, hl, hgn, hn, p1⟩ => ?_) he hpl
  subst ev
  obtain ⟨u, rfl, ru⟩ := vals1 rv
  obtain rfl : u = Value.ref q := ru
  obtain ⟨mA, J, _⟩ := ins_get I1.hok hq
  obtain ⟨od, J, _⟩ := J.look
  obtain ⟨m0, hF⟩ := I1.fr
  obtain ⟨fd, ps, gs', gV, h1, h2, h3⟩ := F.ex
  obtain ⟨hl2, rg⟩ := h3 ρ1 H1 xs [.ref q] [] [] hl rfl rx rfl
  have r1 : Vals [V.ref q] [Value.ref q] := .cons rfl .nil
  have r2 := h2.rel r1 (.nil : Vals [] [])
  refine PySem.W.len_K hF I1.ok.mod.kin J O.at_ O.fn (wpAny_call (codeAny_mono (h1.run X.A.in1 X.stack s1 H1 ⟨[.ref q], []⟩ (gs' [.ref q] []) (gV [.ref q] []) (fun v H' => v = .int n ∧ Q (.int n) H') (fun _ _ _ => False) hr.in1 I1.env0.in1 (h2.to _ [.ref q] [] I1.kIn rfl rfl) r2
    ⟨hl2, ρ1, m1, _, _, m', M1, rg, hgn, fun ρ' H' M E v rv => ⟨rv, by
      have e := p1 ρ' H' M E v rv
      rw [show v = V.int n from rv] at e
      exact e⟩⟩) fun r s' hq' => ?_))
  cases r with
  | error er => exact False.elim (passF (X := X) pins σ H1 s1 er s' (I1.wish _) hq')
  | ok fl =>
    cases fl with
    | ret u =>
      obtain ⟨v, H', I3, rv, ev, q3⟩ := I1.after hq'
      subst ev
      obtain ⟨t, rfl⟩ := rv
      exact ⟨hn, ⟨V.int n, H', I3.tok _, ⟨_, rfl⟩, q3⟩⟩
    | next => exact False.elim hq'
    | brk => exact False.elim hq'
    | cont => exact False.elim hq'⟩⟩
@[simp] theorem dLenO_ap {env : Ev} {m : Mem} : dLenO c gz g d env m = bindR (d env m) fun xs m => match xs with
  | [x] => (match insD m x with
    | some (c', _) => if c' = c then (match g (gz [x] []) m with
      | some (.ok (.int n), m') => if (decide (0 ≤ n) && decide (n < 2 ^ 63)) = true then some (.ok (.int n), m') else none
      | _ => none) else none
    | none => none)
  | _ => none := rfl
/-! ### x in o, o an instance of an own class -/
def dInO (neg : Bool) (c : Str) (gz : List Vl → List Vl → List Vl) (g : FD) (da db : DE) : DE := fun env m => bindR (da env m) fun x m => bindR (db env m) fun y m => match insD m y with
  | some (c', _) => if c' = c then (match g (gz [y, x] []) m with
    | some (.ok (.bl r), m') => some (.ok (.bl (if neg then !r else r)), m')
    | _ => none) else none
  | none => none
theorem inO_rd {W : WX} {neg : Bool} {σ : L2.St} {H : Hp} {Q : VK} (h : rdE X.K W (dInO neg c gz g da db) σ H Q) : rdE X.K W da σ H (fun v H1 => rdE X.K W db σ H1 fun u H2 => ∃ q dx gs ρ1 m1 xs r m', u = .ref q ∧ H2 q = some (.ins (He.ga X.K c) dx gs) ∧ RM X.K ρ1 m1 H2 ∧ RVs X.K ρ1 H2 xs [.ref q, v] ∧ xs.length = 2 ∧ g (gz xs []) m1 = some (.ok (.bl r), m') ∧ Po X.K ρ1 H2 (RV X.K) (fun c dd H' => W c dd σ H') Q (.ok (.bl (if neg then !r else r))) m') := by
  obtain ⟨ρ, env, m, z, m', st, ee, pp⟩ := h
  exact bindE st ee pp fun x m1 ρ1 H1 v s1 E1 r1 e1 p1 => bindE s1 e1 p1 fun y m2 ρ2 H2 u s2 E2 r2 e2 p2 => by
    split at e2
    · rename_i c' fs hi
      split at e2
      · rename_i hc
        subst hc
        split at e2
        · rename_i r m3 hgn
          cases e2
          obtain ⟨q, dx, gs, rfl, h3, h4⟩ := insD_ok s2.mem r2 hi
          exact ⟨q, dx, gs, ρ2, m2, [y, x], r, _, rfl, h3, s2.mem, ⟨_, _, rfl, r2, _, _, rfl, r1.mono E2, rfl⟩, rfl, hgn, p2⟩
        · cases e2
      · cases e2
    · cases e2
theorem se_inO (O : OwnM X.K c "__contains__" f ts) (F : Fz X.prog X.w X.K X.mg X.base k f 2 [] gz g) (hr : Room k X.A) (ha : SE X a da) (hb : SE X b db) (hm : behindInMarks .In b = false := by rfl) : SE X (.Compare a [.In] [b] pos) (dInO false c gz g da db) := ⟨fun W tk => ⟨fun pins s σ H Q I h => by
  refine wpAny_Compare1 ?_ hm
  refine thn ((ha.run W tk).run pins s σ H _ I (inO_rd h)) fun v s1 ⟨x, H1, I1, rx, q1⟩ => ?_
  refine thn ((hb.run W tk).run pins s1 σ H1 _ I1 q1) fun u s2 ⟨y, H2, I2, ry, q, dx, gs, ρ1, m1, xs, r, m', ey, hq, M1, rxs, hl, hgn, p1⟩ => ?_
  subst ey
  obtain rfl : u = Value.ref q := ry
  obtain ⟨mA, J, _⟩ := ins_get I2.hok hq
  obtain ⟨od, J, _⟩ := J.look
  obtain ⟨m0, hF⟩ := I2.fr
  refine PySem.W.in_K hF I2.ok.mod.kin J O.at_ O.fn (thn (F.run (Q := fun v H' => v = .bl r ∧ Q (.bl r) H') hr tk (us := [.ref q, v]) (vs := [.ref q, x]) (ws := []) I2 (.cons rfl (.cons rx .nil)) .nil M1 rxs (show RVs X.K ρ1 H2 [] [] from rfl) hl rfl hgn fun ρ' H' M E v rv => ⟨rv, by
      have e := p1 ρ' H' M E v rv
      rw [show v = V.bl r from rv] at e
      exact e⟩) fun w s3 ⟨z, H3, I3, rz, ez, q3⟩ => ?_)
  subst ez
  cases rz
  exact wpAny_pure ⟨V.bl r, H3, I3, rfl, q3⟩⟩⟩
theorem se_notinO (O : OwnM X.K c "__contains__" f ts) (F : Fz X.prog X.w X.K X.mg X.base k f 2 [] gz g) (hr : Room k X.A) (ha : SE X a da) (hb : SE X b db) (hm : behindInMarks .NotIn b = false := by rfl) : SE X (.Compare a [.NotIn] [b] pos) (dInO true c gz g da db) := ⟨fun W tk => ⟨fun pins s σ H Q I h => by
  refine wpAny_Compare1 ?_ hm
  refine thn ((ha.run W tk).run pins s σ H _ I (inO_rd h)) fun v s1 ⟨x, H1, I1, rx, q1⟩ => ?_
  refine thn ((hb.run W tk).run pins s1 σ H1 _ I1 q1) fun u s2 ⟨y, H2, I2, ry, q, dx, gs, ρ1, m1, xs, r, m', ey, hq, M1, rxs, hl, hgn, p1⟩ => ?_
  subst ey
  obtain rfl : u = Value.ref q := ry
  obtain ⟨mA, J, _⟩ := ins_get I2.hok hq
  obtain ⟨od, J, _⟩ := J.look
  obtain ⟨m0, hF⟩ := I2.fr
  refine PySem.W.notIn_K hF I2.ok.mod.kin J O.at_ O.fn (thn (F.run (Q := fun v H' => v = .bl r ∧ Q (.bl (!r)) H') hr tk (us := [.ref q, v]) (vs := [.ref q, x]) (ws := []) I2 (.cons rfl (.cons rx .nil)) .nil M1 rxs (show RVs X.K ρ1 H2 [] [] from rfl) hl rfl hgn fun ρ' H' M E v rv => ⟨rv, by
      have e := p1 ρ' H' M E (.bl (!r)) rfl
      exact e⟩) fun w s3 ⟨z, H3, I3, rz, ez, q3⟩ => ?_)
  subst ez
  cases rz
  exact wpAny_pure ⟨V.bl (!r), H3, I3, rfl, q3⟩⟩⟩
@[simp] theorem dInO_ap {neg : Bool} {env : Ev} {m : Mem} : dInO neg c gz g da db env m = bindR (da env m) fun x m => bindR (db env m) fun y m => match insD m y with
  | some (c', _) => if c' = c then (match g (gz [y, x] []) m with
    | some (.ok (.bl r), m') => some (.ok (.bl (if neg then !r else r)), m')
    | _ => none) else none
  | none => none := rfl
/-! ### o[i], o an instance of an own class -/
def dIxO (c : Str) (gz : List Vl → List Vl → List Vl) (g : FD) (da db : DE) : DE := fun env m => bindR (da env m) fun x m => bindR (db env m) fun y m => match insD m x with
  | some (c', _) => if c' = c then (match g (gz [x, y] []) m with
    | some (.ok v, m') => some (.ok v, m')
    | _ => none) else none
  | none => none
theorem se_ixO (O : OwnM X.K c "__getitem__" f ts) (hfi : PySem.W.fnIn X.K f = true) (F : Fz X.prog X.w X.K X.mg X.base k f 2 [] gz g) (hr : Room (k + 1) X.A) (ha : SE X a da) (hb : SE X b db)
    (hsl : ∀ x i : Value, subscripted b true x i = runValue (.builtin "lifetime.subscript" ⟨[x, i], []⟩) := by intro _ _; with_unfolding_all rfl) : SE X (.Subscript a b pos) (dIxO c gz g da db) := ⟨fun W tk => ⟨fun pins s σ H Q I h => by
  obtain ⟨ρ, env, m, z, m', st, ee, pp⟩ := h
  have h' : rdE X.K W da σ H (fun v H1 => rdE X.K W db σ H1 fun u H2 => ∃ q dx gs ρ1 m1 xs vl, v = .ref q ∧ H2 q = some (.ins (He.ga X.K c) dx gs) ∧ RM X.K ρ1 m1 H2 ∧ RVs X.K ρ1 H2 xs [.ref q, u] ∧ xs.length = 2 ∧ g (gz xs []) m1 = some (.ok vl, m') ∧ Po X.K ρ1 H2 (RV X.K) (fun c dd H' => W c dd σ H') Q (.ok vl) m') :=
    bindE st ee pp fun x m1 ρ1 H1 v s1 E1 r1 e1 p1 => bindE s1 e1 p1 fun y m2 ρ2 H2 u s2 E2 r2 e2 p2 => by
      split at e2
      · rename_i c' fs hi
        split at e2
        · rename_i hc
          subst hc
          split at e2
          · rename_i vl m3 hgn
            cases e2
            obtain ⟨q, dx, gs, rfl, h3, h4⟩ := insD_ok s2.mem (r1.mono E2) hi
            exact ⟨q, dx, gs, ρ2, m2, [x, y], vl, rfl, h3, s2.mem, ⟨_, _, rfl, r1.mono E2, _, _, rfl, r2, rfl⟩, rfl, hgn, p2⟩
          · cases e2
        · cases e2
      · cases e2
  refine Subscript_ (thn ((ha.run W tk).run pins s σ H _ I h') fun v s1 ⟨x, H1, I1, rx, q1⟩ => thn ((hb.run W tk).run pins s1 σ H1 _ I1 q1) fun u s2 ⟨y, H2, I2, ry, q, dx, gs, ρ1, m1, xs, vl, ex, hq, M1, rxs, hl, hgn, p1⟩ => ?_)
  subst ex
  obtain rfl : v = Value.ref q := rx
  obtain ⟨mA, J, _⟩ := ins_get I2.hok hq
  obtain ⟨od, J, _⟩ := J.look
  obtain ⟨m0, hF⟩ := I2.fr
  obtain ⟨fd, ps, gs', gV, h1, h2, h3⟩ := F.ex
  obtain ⟨hl2, rg⟩ := h3 ρ1 H2 xs [.ref q, y] [] [] hl rfl rxs rfl
  have r1 : Vals [V.ref q, y] [Value.ref q, u] := .cons rfl (.cons ry .nil)
  have r2 := h2.rel r1 (.nil : Vals [] [])
  refine PySem.W.sub_K hF I2.ok.mod.kin J O.at_ hfi O.fn (wpAny_call (codeAny_mono (h1.run X.A.in1 X.stack s2 H2 ⟨[.ref q, u], []⟩ (gs' [.ref q, u] []) (gV [.ref q, y] []) Q (fun _ _ _ => False) hr.in1 I2.env0.in1 (h2.to _ [.ref q, u] [] I2.kIn rfl rfl) r2
    ⟨hl2, ρ1, m1, _, _, m', M1, rg, hgn, fun ρ' H' M E v rv => p1 ρ' H' M E v rv⟩) fun r s' hq' => ?_)) (hsl _ _)
  cases r with
  | error er => exact False.elim (passF (X := X) pins σ H2 s2 er s' (I2.wish _) hq')
  | ok fl =>
    cases fl with
    | ret u => exact I2.after hq'
    | next => exact False.elim hq'
    | brk => exact False.elim hq'
    | cont => exact False.elim hq'⟩⟩
@[simp] theorem dIxO_ap {env : Ev} {m : Mem} : dIxO c gz g da db env m = bindR (da env m) fun x m => bindR (db env m) fun y m => match insD m x with
  | some (c', _) => if c' = c then (match g (gz [x, y] []) m with
    | some (.ok v, m') => some (.ok v, m')
    | _ => none) else none
  | none => none := rfl
end
end Z
namespace Z
open PySem PySem.Spec PyProof.Rows L2
variable [Kd]
/-! ### != of a class that has == alone -/
structure OwnN (K : PySem.W.Frag) (c : Str) (f : Addr) (ts : List TD) : Prop where
  eq : OwnM K c "__eq__" f ts
  ne : PySem.W.findIn K (.ref (He.ga K c)) "__ne__" = some (some (.builtin "object.__ne__"))
  ob : PySem.W.mroIn K (He.ga K c) (.type "object") = some true
def ckNeE (c : Str) (ts : List TD) : Ck := fun K => ckOwn c "__eq__" ts K && (He.eqO (PySem.W.findIn K (.ref (He.ga K c)) "__ne__") (some (some (.builtin "object.__ne__"))) && decide (PySem.W.mroIn K (He.ga K c) (.type "object") = some true))
theorem ckNeE_ok {K : PySem.W.Frag} {c : Str} {ts : List TD} (h : ckNeE c ts K = true) : OwnN K c (He.ma K (He.ga K c) "__eq__") ts := by
  unfold ckNeE at h
  rw [Bool.and_eq_true, Bool.and_eq_true, decide_eq_true_eq] at h
  exact ⟨ckOwn_ok h.1, He.eqO_ok h.2.1, h.2.2⟩
theorem ifBound_ne {M : Model} {A : Around} {E : Value → Shared → Prop} {s : Shared} {K : PySem.W.Frag} {x C : Addr} {ox : Obj} {od : Option Obj} {args : List Value} {Q : Option Value → Shared → Prop} (X : K.In s.heap) (I : PySem.W.InstAt s.heap x ox C od)
    (hf : PySem.W.findIn K (.ref C) (Str.ofString "__ne__") = some (some (.builtin "object.__ne__"))) (h : wpAny M A (call (.builtin "object.__ne__") (.ref x :: args)) (fun v => Q (some v)) E s) : wpAny M A (callSpecialIfBound? (.ref x) (Str.ofString "__ne__") args) Q E s := by
  have b : ∀ E' : Value → Shared → Prop, wpAny M A (bindSpecial (.builtin "object.__ne__") (.ref x) >>= fun r => pure (some r)) (fun r s' => r = some (.builtin "object.__ne__", [.ref x]) ∧ s' = s) E' s := fun E' =>
    wpAny_bind (wpAny_of_eq (F.cmp_object.ne.bind _) (wpAny_pure ⟨rfl, rfl⟩))
  have go : wpAny M A (bindSpecialIfBound? (.ref x) (Str.ofString "__ne__")) (fun r s' => r = some (.builtin "object.__ne__", [.ref x]) ∧ s' = s) E s := by
    unfold bindSpecialIfBound? specialOf
    refine wpAny_bind (wpAny_bind (I.type.here ((PySem.W.looks_findIn X hf).here ?_)))
    refine wpAny_bind (wpAny_askSetting ?_)
    split
    · exact b _
    · exact wpAny_tryCatch (b _)
  unfold callSpecialIfBound?
  refine wpAny_holding (wpAny_bind (wpAny_mono go ?_ fun _ _ h => h))
  rintro r s' ⟨rfl, rfl⟩
  exact wpAny_bind (wpAny_mono h (fun v s' hv => wpAny_pure hv) fun _ _ e => e)
/-- the entry: __eq__ asked, turned round -/
theorem entry_ne {M : Model} {A : Around} {E : Value → Shared → Prop} {s : Shared} {K : PySem.W.Frag} {x C f : Addr} {ox : Obj} {od : Option Obj} {b : Value} {Q : Fin → Shared → Prop} (X : K.In s.heap) (I : PySem.W.InstAt s.heap x ox C od) (hu : A.units < cLine)
    (hs : PySem.W.findIn K (.ref C) (Str.ofString "__eq__") = some (some (.ref f))) (hf : PySem.W.isFn K (.ref f) = true) (h : wpAny M A (call (.ref f) [.ref x, b]) (fun v s' => ∃ c, v = .bool c ∧ Q (.done (.ret (.bool !c))) s') E s) :
    wpAny M A (Builtin.«object.__ne__» { pos := [.ref x, b] }) Q E s := by
  unfold Builtin.«object.__ne__»
  refine wpAny_bind ?_
  have sl : slotArgs "__ne__" 1 { pos := [.ref x, b] } = pure (.ref x, [b]) := rfl
  refine wpAny_of_eq sl ?_
  refine wpAny_bind (wpAny_cRoomFor hu (wpAny_bind (PySem.W.ifBound_K X I hs hf (wpAny_mono h ?_ fun _ _ e => e))))
  rintro r s' ⟨c, rfl, hq⟩
  exact wpAny_bind (wpAny_pure (wpAny_pure hq))
theorem call_ne {prog : Program} {w : World} {A : Around} {E : Value → Shared → Prop} {s : Shared} {K : PySem.W.Frag} {x C f : Addr} {ox : Obj} {od : Option Obj} {b : Value} {Q : Value → Shared → Prop} (X : K.In s.heap) (I : PySem.W.InstAt s.heap x ox C od) (hu : A.in1.units < cLine)
    (hm : PySem.W.mroIn K C (.type "object") = some true) (hs : PySem.W.findIn K (.ref C) (Str.ofString "__eq__") = some (some (.ref f))) (hf : PySem.W.isFn K (.ref f) = true) (h : wpAny (model prog w) A.in1 (call (.ref f) [.ref x, b]) (fun v s' => ∃ c, v = .bool c ∧ Q (.bool !c) s') E s) :
    wpAny (model prog w) A (call (.builtin "object.__ne__") [.ref x, b]) Q E s :=
  wpAny_call (codeAny_call_builtin F.cmp_object.ne.plain F.cmpEntry_ne (PySem.W.check_slot F.cmpKind_ne F.cmpSplit_ne (PySem.W.Looks.andThen I.type (PySem.W.looks_mroIn X hm)) (F.cmpArgs_ne _ _) (entry_ne X I hu hs hf h)))
theorem cmp_ne {prog : Program} {w : World} {A : Around} {E : Value → Shared → Prop} {s : Shared} {K : PySem.W.Frag} {x C L f : Addr} {h₀ : Heap} {m : Str → Option Value} {ox : Obj} {od : Option Obj} {b tb : Value} {Q : Value → Shared → Prop} (hu : A.in1.units < cLine) (hu0 : A.units < cLine)
    (F : Fr h₀ L s.heap m) (X₀ : K.In h₀) (I : PySem.W.InstAt s.heap x ox C od) (hb : PySem.W.Looks (model prog w) s.heap (typeOf b) tb) (hn : PySem.W.notFirst K C tb = true)
    (hne : PySem.W.findIn K (.ref C) (Str.ofString "__ne__") = some (some (.builtin "object.__ne__"))) (hm : PySem.W.mroIn K C (.type "object") = some true) (hs : PySem.W.findIn K (.ref C) (Str.ofString "__eq__") = some (some (.ref f))) (hf : PySem.W.isFn K (.ref f) = true)
    (h : wpAny (model prog w) A.in1 (call (.ref f) [.ref x, b]) (fun v s' => ∃ c, v = .bool c ∧ Q (.bool !c) s') E s) : wpAny (model prog w) A (richCompare .NotEq (.ref x) b) Q E s := by
  have X := X₀.keeps F.keep
  have one : wpAny (model prog w) A (tryCompare (.ref x) (Str.ofString "__ne__") b) (fun r s' => ∃ v, r = some v ∧ Q v s') E s := by
    unfold tryCompare
    refine wpAny_bind (ifBound_ne X I hne (call_ne X I hu hm hs hf (wpAny_mono h ?_ fun _ _ e => e)))
    rintro v s' ⟨c, rfl, hq⟩
    exact ⟨c, rfl, wpAny_pure ⟨_, rfl, hq⟩⟩
  unfold richCompare
  refine wpAny_holding (wpAny_bind (wpAny_cRoomFor hu0 ?_))
  show wpAny _ _ (typeOf (.ref x) >>= _) _ _ _
  refine wpAny_bind (I.type.here (wpAny_bind (hb.here ?_)))
  by_cases hc : (Value.ref C != tb) = true
  · have hn' : PySem.W.subIn K tb (.ref C) = some false := by
      unfold PySem.W.notFirst at hn
      rw [Bool.or_eq_true] at hn
      rcases hn with hn | hn
      · have e : tb = Value.ref C := beq_iff_eq.mp hn
        rw [e] at hc
        simp at hc
      · exact beq_iff_eq.mp hn
    simp only [hc, if_true]
    refine wpAny_bind ((PySem.W.looks_subIn X hn').here ?_)
    simp only [Bool.false_eq_true, if_false]
    refine wpAny_bind (wpAny_mono one ?_ fun _ _ e => e)
    rintro r s' ⟨v, rfl, hq⟩
    exact wpAny_pure hq
  · simp only [hc, if_false, Bool.false_eq_true]
    refine wpAny_bind (wpAny_pure ?_)
    simp only [Bool.false_eq_true, if_false]
    refine wpAny_bind (wpAny_mono one ?_ fun _ _ e => e)
    rintro r s' ⟨v, rfl, hq⟩
    exact wpAny_pure hq
section
variable {X : Cx} {c : Str} {f : Addr} {ts : List TD} {k : Nat} {gz : List Vl → List Vl → List Vl} {g : FD} {cs : List Str} {a b : Expr} {da db : DE} {pos : Pos}
def dCmpN (c : Str) (cs : List Str) (ts : List TD) (gz : List Vl → List Vl → List Vl) (g : FD) (da db : DE) : DE := fun env m => bindR (da env m) fun x m => bindR (db env m) fun y m => match insD m x, tyD m y with
  | some (c', _), some t => if (decide (c' = c) && (ts.contains t && tdOk cs t)) = true then (match g (gz [x, y] []) m with
    | some (.ok (.bl r), m') => some (.ok (.bl (!r)), m')
    | some (.ex c fs, m') => some (.ex c fs, m')
    | _ => none) else none
  | _, _ => none
theorem rc_neE {A : Around} {E : Value → Shared → Prop} (hI : InsA X.K cs) (O : OwnN X.K c f ts) (F : Fz X.prog X.w X.K X.mg X.base k f 2 [] gz g) (sb : Sub X (k + 1) A) {pins : List (Addr × Obj)} {σ : L2.St} {H : Hp} {s : Shared} {Q : Value → Shared → Prop} {EE : XK}
    {u : Value} {y : V} {q dx : Addr} {gs : List (Str × V)} {ρ : Lay} {m m' : Mem} {xv yv : Vl} {r : R Vl} {t : TD} (I : Inv X pins σ H s) (hq : H q = some (.ins (He.ga X.K c) dx gs)) (ry : RelV y u) (M : RM X.K ρ m H) (rx : RV X.K ρ H xv (.ref q)) (ryv : RV X.K ρ H yv y)
    (ht : tyD m yv = some t) (hts : ts.contains t = true) (htc : tdOk cs t = true) (e : g (gz [xv, yv] []) m = some (r, m')) (hb : match r with
      | .ok z => ∃ b, z = .bl b
      | _ => True) (hE : ∀ e s', CXk X.prog X.w X.stack H s EE e s' → E e s')
    (p : ∀ ρ' H', RM X.K ρ' m' H' → Ext ρ H ρ' H' → match r with
      | .ok z => ∀ b, z = .bl b → ∀ s', Inv X pins σ H' s' → Q (.bool !b) s'
      | .ex c fs => ∀ dd, XD X.K ρ' H' dd fs → EE (.ref (He.ga X.K c)) dd H') : wpAny (model X.prog X.w) A (richCompare .NotEq (.ref q) u) Q E s := by
  obtain ⟨fd, ps, gs', gV, h1, h2, h3⟩ := F.ex
  obtain ⟨mA, J, _⟩ := ins_get I.hok hq
  obtain ⟨od, J, _⟩ := J.look
  obtain ⟨m0, hF⟩ := I.fr
  obtain ⟨P, kx, hP, _⟩ := kit_of I ry (tyD_ok hI M ryv ht htc)
  have hl := kx.ty (model X.prog X.w) s.heap I.kIn hP
  have sb1 := sb.in1
  refine cmp_ne (tb := t.val X.K) sb1.room.units0 sb.room.units0 hF I.ok.mod.kin J hl (O.eq.nf t (by simpa using hts)) O.ne O.ob O.eq.at_ O.eq.fn ?_
  have e0 : Env0 X.prog X.w X.K X.mg X.base A.in1 X.stack s H := by
    have e := I.env0
    exact ⟨by rw [sb1.fr]; exact e.frames, e.mod, e.bs, e.bsz, e.funs, e.frf, e.hok, e.bare⟩
  obtain ⟨hl2, rg⟩ := h3 ρ H [xv, yv] [.ref q, y] [] [] rfl rfl ⟨_, _, rfl, rx, _, _, rfl, ryv, rfl⟩ rfl
  have r1 : Vals [V.ref q, y] [Value.ref q, u] := .cons rfl (.cons ry .nil)
  have r2 := h2.rel r1 (.nil : Vals [] [])
  refine wpAny_call (codeAny_mono (h1.run A.in1 X.stack s H ⟨[.ref q, u], []⟩ (gs' [.ref q, u] []) (gV [.ref q, y] []) (fun v H' => ∃ ρ' z, r = .ok z ∧ RM X.K ρ' m' H' ∧ Ext ρ H ρ' H' ∧ RV X.K ρ' H' z v) EE sb1.room e0 (h2.to s [.ref q, u] [] I.kIn rfl rfl) r2 ⟨hl2, ρ, m, _, r, m', M, rg, e, fun ρ' H' M' E' => ?_⟩) fun rr s' hq' => ?_)
  · have pp := p ρ' H' M' E'
    cases r with
    | ok z => exact fun v rv => ⟨ρ', z, rfl, M', E', rv⟩
    | ex c fs => exact pp
  · cases rr with
    | error er => exact hE er s' hq'
    | ok fl =>
      cases fl with
      | ret w =>
        obtain ⟨v, H', I', rv, ρ', z, rfl, M', E', rz⟩ := I.after hq'
        obtain ⟨b, rfl⟩ := hb
        have pp := p ρ' H' M' E' b rfl s' I'
        have hv : v = .bl b := rz
        subst hv
        have hw : w = .bool b := rv
        subst hw
        exact ⟨b, rfl, pp⟩
      | next => exact False.elim hq'
      | brk => exact False.elim hq'
      | cont => exact False.elim hq'
theorem se_neE (hI : InsA X.K cs) (O : OwnN X.K c f ts) (F : Fz X.prog X.w X.K X.mg X.base k f 2 [] gz g) (hr : Room (k + 1) X.A) (ha : SE X a da) (hb : SE X b db) (hm : behindInMarks .NotEq b = false := by exact nomark _) :
    SE X (.Compare a [.NotEq] [b] pos) (dCmpN c cs ts gz g da db) := ⟨fun W tk => ⟨fun pins s σ H Q I h => by
  obtain ⟨ρ, env, m, z, m', st, ee, pp⟩ := h
  refine wpAny_Compare1 ?_ hm
  have h' : rdE X.K W da σ H (fun v H1 => rdE X.K W db σ H1 fun u H2 => ∃ q dx gs ρ' m1 xv yv t r, v = .ref q ∧ H2 q = some (.ins (He.ga X.K c) dx gs) ∧ RM X.K ρ' m1 H2 ∧ RV X.K ρ' H2 xv v ∧ RV X.K ρ' H2 yv u ∧ tyD m1 yv = some t ∧ ts.contains t = true ∧ tdOk cs t = true ∧ g (gz [xv, yv] []) m1 = some (r, m') ∧ (match r with
      | .ok rr => ∃ b, rr = .bl b ∧ z = .ok (.bl (!b))
      | .ex c fs => z = .ex c fs) ∧ Po X.K ρ' H2 (RV X.K) (fun c dd H' => W c dd σ H') Q z m') :=
    bindE st ee pp fun x m1 ρ1 H1 v s1 E1 r1 e1 p1 => bindE s1 e1 p1 fun y m2 ρ2 H2 u s2 E2 r2 e2 p2 => by
      split at e2
      · rename_i c' fs t hi ht
        split at e2
        · rename_i hc
          rw [Bool.and_eq_true, Bool.and_eq_true, decide_eq_true_eq] at hc
          obtain ⟨rfl, hc1, hc2⟩ := hc
          obtain ⟨q, dx, gs, rfl, h3, h4⟩ := insD_ok s2.mem (r1.mono E2) hi
          split at e2
          · rename_i rb m3 hg
            cases e2
            exact ⟨q, dx, gs, ρ2, m2, x, y, t, _, rfl, h3, s2.mem, r1.mono E2, r2, ht, hc1, hc2, hg, ⟨rb, rfl, rfl⟩, p2⟩
          · rename_i cc ff m3 hg
            cases e2
            exact ⟨q, dx, gs, ρ2, m2, x, y, t, _, rfl, h3, s2.mem, r1.mono E2, r2, ht, hc1, hc2, hg, rfl, p2⟩
          · cases e2
        · cases e2
      · cases e2
  refine thn ((ha.run W tk).run pins s σ H _ I h') fun v s1 ⟨x, H1, I1, rx, q1⟩ => ?_
  refine thn ((hb.run W tk).run pins s1 σ H1 _ I1 q1) fun u s2 ⟨y, H2, I2, ry, q, dx, gs, ρ2, m2, xv, yv, t, r, ex, hq, M2, rxv, ryv, ht, hts, htc, eg, hz, p2⟩ => ?_
  subst ex
  obtain rfl : v = Value.ref q := rx
  refine PySem.W.cmp_ofNotEq ?_
  refine rc_neE (EE := fun c dd H' => W c dd σ H') hI O F ⟨hr, rfl⟩ I2 hq ry M2 rxv ryv ht hts htc eg (by
    cases r with
    | ok rr =>
      obtain ⟨b, h1, _⟩ := hz
      exact ⟨b, h1⟩
    | ex c fs => trivial) (fun er s' hx => tk.call I2 (fun _ _ _ h => h) hx) fun ρ' H' M' E' => ?_
  have p3 := p2 ρ' H' M' E'
  cases r with
  | ok rr =>
    obtain ⟨b, rfl, rfl⟩ := hz
    intro b' hb' s' I'
    cases hb'
    exact ⟨.bl (!b), H', I', rfl, p3 _ rfl⟩
  | ex c fs =>
    subst hz
    exact p3⟩⟩
end
end Z
namespace Z
open PySem PySem.Spec PyProof.Rows L2
variable [Kd]
/-! ### a, b = a list -/
theorem isList_but {h h' : Heap} {l it : Addr} {its : Array Value} (a : h.IsList l its) (hne : l ≠ it) (k : ∀ b, b ≠ it → h'.get? b = h.get? b) : h'.IsList l its := by
  obtain ⟨o, h1, h2⟩ := a
  exact ⟨o, by rw [k l hne]; exact h1, h2⟩
theorem draw_list {prog : Program} {w : World} {A : Around} {E : Value → Shared → Prop} {it l : Addr} {items : Array Value} (hne : l ≠ it) : ∀ (n i : Nat) (s : Shared) (Q : List Value → Shared → Prop), s.heap.IsListIter it l i → s.heap.IsList l items → i + n ≤ items.size →
    (∀ h' : Heap, h'.IsListIter it l (i + n) → Heap.SameBut it s.heap h' → Q ((items.toList.drop i).take n) { heap := h', gens := s.gens, drawn := s.drawn, toks := s.toks, os := s.os }) → wpAny (model prog w) A (draw (.ref it) n) Q E s
  | 0, i, s, Q, h1, h2, h3, hq => by
    rw [draw.eq_1]
    refine wpAny_pure ?_
    rw [List.take_zero] at hq
    exact hq s.heap h1 ⟨rfl, fun _ _ => rfl⟩
  | n + 1, i, s, Q, h1, h2, h3, hq => by
    have hi : i < items.size := by omega
    rw [draw.eq_2]
    refine wpAny_bind (wpAny_pyNext_list_item h1 h2 (x := items[i]) (by rw [Array.getElem?_eq_getElem hi]) fun h' a1 a2 => ?_)
    refine wpAny_bind (wpAny_holding (draw_list hne n (i + 1) _ _ a1 (isList_but h2 hne a2.2) (by omega) fun h2' b1 b2 => ?_))
    refine wpAny_pure ?_
    have e : (items.toList.drop i).take (n + 1) = items[i] :: (items.toList.drop (i + 1)).take n := by
      rw [List.drop_eq_getElem_cons (by simpa using hi)]
      simp
    rw [← e]
    refine hq h2' (by rw [show i + (n + 1) = i + 1 + n by omega]; exact b1) ⟨b2.1.trans a2.1, fun b hb => (b2.2 b hb).trans (a2.2 b hb)⟩
theorem unpackItems_list {prog : Program} {w : World} {A : Around} {E : Value → Shared → Prop} {s : Shared} {l : Addr} {items : Array Value} {Q : List Value → Shared → Prop} (hh : A.handled = none) (hl : s.heap.IsList l items) (hT : s.TypeIs (.ref l) "list")
    (hq : ∀ h' : Heap, Heap.ExtBut s.heap.objs.size s.heap h' → Q items.toList { heap := h', gens := s.gens, drawn := s.drawn, toks := s.toks, os := s.os }) : wpAny (model prog w) A (unpackItems (.ref l) items.size none) Q E s := by
  have hne : l ≠ s.heap.objs.size := by
    obtain ⟨o, ho, _⟩ := hl
    exact Nat.ne_of_lt (Heap.lt_size ho)
  unfold unpackItems
  refine wpAny_bind ?_
  have ni : wpAny (model prog w) A (notIterableAtAll (.ref l)) (fun r s' => r = false ∧ s' = s) E s := by
    unfold notIterableAtAll
    refine wpAny_bind (wpAny_specialOf hT F.slot_list_iter.lookup ?_)
    simp only [Option.isSome_some, if_true]
    exact wpAny_pure ⟨rfl, rfl⟩
  refine wpAny_mono ni ?_ fun _ _ e => e
  rintro r s' ⟨rfl, rfl⟩
  simp only [Bool.false_eq_true, if_false]
  refine wpAny_bind (wpAny_holding (wpAny_pyIter_list hl ?_))
  let o : Obj := { cls := Value.type "list_iterator", data := Data.fields #[Value.ref l, Value.int 0 0] }
  have i0 : (s'.heap.push o).IsListIter s'.heap.objs.size l 0 := ⟨o, Heap.get?_push_size s'.heap rfl, rfl, rfl⟩
  have l0 : (s'.heap.push o).IsList l items := by
    obtain ⟨x, hx, h2⟩ := hl
    exact ⟨x, Heap.get?_push_of_some o hx, h2⟩
  refine wpAny_bind (wpAny_holding (draw_list hne items.size 0 _ _ i0 l0 (by omega) fun h' a1 a2 => ?_))
  have e : (items.toList.drop 0).take items.size = items.toList := by
    rw [List.drop_zero]
    exact List.take_of_length_le (by simp)
  rw [e]
  have ln : ¬ items.toList.length < items.size := by simp
  rw [if_neg ln]
  refine wpAny_bind (wpAny_holding (wpAny_pyNext_list_end hh a1 (isList_but l0 hne a2.2) (by simp) fun h2 b1 => ?_))
  simp only [Option.isSome_none, Bool.false_eq_true, if_false]
  refine wpAny_pure (hq h2 fun b x hb hx => b1 b x hb ?_)
  rw [a2.2 b hb]
  exact Heap.get?_push_of_some o hx
theorem assign_list {prog : Program} {w : World} {A : Around} {E : Value → Shared → Prop} {s : Shared} {env : Env} {elts : List PySem.Expr} {x1 : Nat} {pos : Pos} {l : Addr} {items : Array Value} {Q : Unit → Shared → Prop} (hh : A.handled = none) (hl : s.heap.IsList l items) (hT : s.TypeIs (.ref l) "list")
    (hn : (assignEach elts env).length = items.size) (hst : (assignEach elts env).findIdx? (·.1) = none)
    (hq : ∀ h' : Heap, Heap.ExtBut s.heap.objs.size s.heap h' → wpAny (model prog w) A (assignInOrder ((assignEach elts env).map (·.2)) items.toList) Q E { heap := h', gens := s.gens, drawn := s.drawn, toks := s.toks, os := s.os }) :
    wpAny (model prog w) A (assign (.Tuple elts x1 pos) env (.ref l)) Q E s := by
  rw [assign_Tuple]
  refine wpAny_bind (wpAny_standAt ?_)
  unfold unpack
  rw [hn, hst]
  exact wpAny_bind (wpAny_holding (unpackItems_list hh hl hT hq))
def gLst (K : PySem.W.Frag) (n : Nat) (t : TGs) : TG := fun v σ H Q => ∃ a xs, v = .ref a ∧ SqL K H a xs ∧ xs.length = n ∧ t xs σ H Q
theorem plainL_ty {s : Shared} {a : Addr} {its : Array Value} (h : PlainL s.heap a its) : s.TypeIs (.ref a) "list" := by
  obtain ⟨o, n, h1, h2, h3, h4⟩ := h
  exact ⟨o, h1, h2⟩
theorem pg_lst {X : Cx} {pos : Pos} {es : List PySem.Expr} {k : Nat} {t : TGs} {n : Nat} (hc : X.calm = true) (h : PGs X es t) (hn : (assignEach es X.env).length = n) (hst : (assignEach es X.env).findIdx? (·.1) = none) : PG X (.Tuple es k pos) (gLst X.K n t) := ⟨fun pins s σ H v u Q I r hw => by
  obtain ⟨a, xs, rfl, hq, hl, hw⟩ := hw
  obtain rfl : u = Value.ref a := r
  obtain ⟨its, rv, pl, hz⟩ := I.list hq
  refine assign_list (I.ok.hd hc) pl.isList (plainL_ty pl) (by rw [hn, ← hl, rv.length]; simp) hst fun h' hx => ?_
  have I1 : L2.Inv X pins σ H { heap := h', gens := s.gens, drawn := s.drawn, toks := s.toks, os := s.os } := I.kept fun b o e => hx b o (Nat.ne_of_lt (Heap.lt_size e)) e
  exact h.run pins _ σ H xs its.toArray.toList Q I1 (by simpa using rv) hw⟩
section
variable {X : Cx} {pos : Pos}
/-- a, b = a list that lies in a cell, or a list -/
def gLstD (ds : List Vl → Ev → Mem → Option (Ev × Mem)) : DG := fun x env m => match lsD m x with
  | some xs => ds xs env m
  | none => none
theorem sg_lst {es : List PySem.Expr} {k n : Nat} {ds : List Vl → Ev → Mem → Option (Ev × Mem)} (hc : X.calm = true) (h : SGs X es ds) (hl : GsLen ds n)
    (hn : (assignEach es X.env).length = n := by rfl) (hst : (assignEach es X.env).findIdx? (·.1) = none := by rfl) : SG X (.Tuple es k pos) (gLstD ds) := ⟨fun W tk => impPG (pg_lst hc (h.run W tk) hn hst) fun v σ H Q ⟨ρ, env, m, x, env', m', s, r, e, p⟩ => by
  unfold gLstD at e
  split at e
  · rename_i xs hx
    obtain ⟨a, vs, rfl, h1, h2⟩ := lsD_ok s.mem r hx
    exact ⟨a, vs, rfl, SqL.of h1, by rw [← h2.length]; exact hl _ _ _ _ e, ρ, env, m, xs, env', m', s, h2, e, p⟩
  · cases e⟩
@[simp] theorem gLstD_ap {ds : List Vl → Ev → Mem → Option (Ev × Mem)} {x : Vl} {env : Ev} {m : Mem} : gLstD ds x env m = match lsD m x with
  | some xs => ds xs env m
  | none => none := rfl
end
end Z
namespace Z
open PySem PySem.Spec PyProof.Rows L2
variable [Kd]
/-! ### iteration by an own __iter__ that says iter(a tuple) -/
theorem isTupIter_of {h : Heap} {it a : Addr} {i : Nat} (x : IsTupIter h it a i) : h.IsTupleIter it a i := x
theorem call_iter_tup {prog : Program} {w : World} {A : Around} {E : Value → Shared → Prop} {s : Shared} {t : Addr} {items : Array Value} {Q : Value → Shared → Prop} (ht : IsTup s.heap t items)
    (hq : Q (.ref s.heap.objs.size) { heap := s.heap.push { cls := Value.type "tuple_iterator", data := Data.fields #[Value.ref t, Value.int 0 0] }, gens := s.gens, drawn := s.drawn, toks := s.toks, os := s.os }) :
    wpAny (model prog w) A (call (.builtin "iter") [.ref t]) Q E s := by
  refine PySem.Calls.call_function_entry PySem.W.kdk_iter._proof_1_1 PySem.W.kdk_iter._proof_1_2 PySem.W.kdk_entry_iter (PySem.W.kdk_args_iter _) ?_
  unfold Builtin.iter
  have sa : someArgs "iter" 1 2 { pos := [.ref t] } = pure [.ref t] := rfl
  refine wpAny_bind (wpAny_of_eq sa ?_)
  refine wpAny_bind (iter_tuple ht ?_)
  exact wpAny_pure ⟨_, rfl, hq⟩
theorem bind_own {M : Model} {A : Around} {E : Value → Shared → Prop} {s : Shared} {K : PySem.W.Frag} {x C f : Addr} {ox : Obj} {od : Option Obj} {name : Str} (X : K.In s.heap) (I : PySem.W.InstAt s.heap x ox C od)
    (hs : PySem.W.findIn K (.ref C) name = some (some (.ref f))) (hf : PySem.W.isFn K (.ref f) = true) : wpAny M A (bindSpecialIfBound? (.ref x) name) (fun r s' => r = some (.ref f, [.ref x]) ∧ s' = s) E s := by
  have ty : PySem.W.typeIn K (.ref f) = some (.type "function") := by
    unfold PySem.W.isFn at hf
    exact beq_iff_eq.mp hf
  have b : ∀ E' : Value → Shared → Prop, wpAny M A (bindSpecial (.ref f) (.ref x) >>= fun r => pure (some r)) (fun r s' => r = some (.ref f, [.ref x]) ∧ s' = s) E' s := fun E' =>
    wpAny_bind ((PySem.W.bind_fn X (.ref x) ty).here (wpAny_pure ⟨rfl, rfl⟩))
  unfold bindSpecialIfBound? specialOf
  refine wpAny_bind (wpAny_bind (I.type.here ((PySem.W.looks_findIn X hs).here ?_)))
  refine wpAny_bind (wpAny_askSetting ?_)
  split
  · exact b _
  · exact wpAny_tryCatch (b _)
/-- iter(x) of an own class, told by what its __iter__ answers -/
theorem pyIter_own {M : Model} {A : Around} {E : Value → Shared → Prop} {s : Shared} {K : PySem.W.Frag} {x C f : Addr} {ox : Obj} {od : Option Obj} {Q : Value → Shared → Prop} (X : K.In s.heap) (I : PySem.W.InstAt s.heap x ox C od)
    (hs : PySem.W.findIn K (.ref C) (Str.ofString "__iter__") = some (some (.ref f))) (hf : PySem.W.isFn K (.ref f) = true) (h : wpAny M A (call (.ref f) [.ref x]) (fun v s' => s'.TypeIs v "tuple_iterator" ∧ Q v s') E s) : wpAny M A (pyIter (.ref x)) Q E s := by
  unfold pyIter
  refine wpAny_bind ?_
  unfold specialOf
  refine wpAny_bind (I.type.here ((PySem.W.looks_findIn X hs).here ?_))
  refine wpAny_bind ?_
  unfold callSpecialIfBoundUnlessNone?
  refine wpAny_holding (wpAny_bind (wpAny_mono (bind_own X I hs hf) ?_ fun _ _ e => e))
  rintro r s' ⟨rfl, rfl⟩
  have hn : ((Value.ref f == Value.none) = true) = False := by simp
  simp only [hn, if_false]
  refine wpAny_bind (wpAny_mono h ?_ fun _ _ e => e)
  rintro v s2 ⟨ty, hq⟩
  refine wpAny_pure ?_
  refine wpAny_bind (wpAny_specialOf ty F.slot_tuple_iterator_next.lookup ?_)
  exact wpAny_pure hq
section
variable {P : Program} {w : World} {K : PySem.W.Frag} {mg : Str → Option Value} {base : Heap} {x qual : Str} {params : Arguments} {scope : Scope} {dvs : List V} {kws : List (Str × V)} {f : Addr} {fd : FuncData} {p pos pos2 : Pos} {e : Expr} {dx : DE} {k : Nat} {c : Str}
/-- what such an __iter__ leaves -/
def ItR (P : Program) (w : World) (K : PySem.W.Frag) (outer : List Env) (s : Shared) (H : Hp) (ρ : Lay) (m : Mem) (xs : List Vl) (E : XK) : Result → Shared → Prop
  | .ok (.ret u), s' => ∃ it a, u = .ref it ∧ IsTupIter s'.heap it a 0 ∧ s.heap.objs.size ≤ it ∧ CE outer P w H s (fun v H' => v = .ref it ∧ H' it = none ∧ ∃ ρ' vs, RM K ρ' m H' ∧ Ext ρ H ρ' H' ∧ SqT K H' a vs ∧ (∀ ρ2 H2, Ext ρ' H' ρ2 H2 → SqT K H2 a vs) ∧ RVs K ρ' H' xs vs) (.ref it) s'
  | .ok _, _ => False
  | .error er, s' => CXk P w outer H s E er s'
structure ItF (P : Program) (w : World) (K : PySem.W.Frag) (mg : Str → Option Value) (base : Heap) (k : Nat) (f : Addr) (dx : DE) : Prop where
  run : ∀ (A : Around) (outer : List Env) (s : Shared) (H : Hp) (q : Addr) (ρ : Lay) (m : Mem) (xv : Vl) (xs : List Vl) (E : XK), Room k A → Env0 P w K mg base A outer s H → RM K ρ m H → RV K ρ H xv (.ref q) → dx [some xv] m = some (.ok (.tup xs), m) →
    codeAny (model P w) A (.call (.ref f) ⟨[.ref q], []⟩) (ItR P w K outer s H ρ m xs E) s
theorem itF_of (F : FunD K x qual params [.Return (some (.Call (.Name "iter" p) [e] [] pos)) pos2] scope [] kws f fd) (S : FnScope ["self"] ["self"] scope) (hm : mg "iter" = none)
    (hbind : ∀ (kV doc pm : Value) (an : Option Addr) (cdv ct : Value) (u : Value), bindArgs (PySem.W.fnOf x qual params [.Return (some (.Call (.Name "iter" p) [e] [] pos)) pos2] scope .none kV doc pm an cdv ct) ⟨[u], []⟩ = pure [(("self" : Str), u)])
    (hgl : ∀ (cdv : Value) (A : Around) (outer : List Env) (s : Shared) (H : Hp) (E : XK), Gl (cxOf (CXk P w) P w K mg base ["self"] qual scope f cdv A outer s H E) "iter")
    (he : ∀ (cdv : Value) (A : Around) (outer : List Env) (s : Shared) (H : Hp) (E : XK), Room k (A.deeper (envOfC qual scope s.heap.objs.size f cdv)) → SE (cxOf (CXk P w) P w K mg base ["self"] qual scope f cdv A outer s H E) e dx)
    (hst : ∀ env : Env, starEach (e :: []) env = (false, eval e env) :: starEach [] env) (hpl : ∀ env : Env, (backTo pos (starEach [] env)).any (·.1) = false) : ItF P w K mg base (k + 1) f dx := by
  obtain ⟨oc, od, dV, kV, doc, pm, an, cdv, ct, osl, rfl, lk, hcd, hDD, hk2⟩ := F.ex
  obtain rfl : dV = .none := by
    rcases hDD with ⟨_, e⟩ | ⟨e, _⟩
    · exact e
    · exact absurd rfl e
  refine ⟨fun A outer s H q ρ m xv xs E room e0 M rx ex => ?_⟩
  have old : s.heap.NoLimit ∧ K.In s.heap := ⟨e0.mod.nolimit.keeps fun b o e => (e0.bs b o e).1, e0.mod.kin.keeps fun b o e => (e0.bs b o e).1⟩
  have named : ∀ y ∈ (["self"] : List Str).zip [Value.ref q], scope.names.lookup y.1 = some .local ∨ (scope.names.lookup y.1 = some .cell ∧ ((cellsFrom (s.heap.objs.size + 1) scope.names []).lookup y.1).isSome = true) := by
    intro y hy
    exact (S.par y.1 (List.of_mem_zip hy).1).imp id fun q => ⟨q, PySem.W.cellsFrom_some _ _ _ (.inl q)⟩
  have bnd : BindsTo s (PySem.W.fnOf x qual params [.Return (some (.Call (.Name "iter" p) [e] [] pos)) pos2] scope .none kV doc pm an cdv ct) ⟨[.ref q], []⟩ ((["self"] : List Str).zip [Value.ref q]) := .of_eq (hbind kV doc pm an cdv ct (.ref q))
  refine codeAny_call_function room.depth (old.2 _ _ lk) rfl S.co S.gen rfl (PySem.W.codeRec_of old.2 hcd) (bnd _ _ _ _ (wpAny_newFunctionEnv_cells S.kind named ?_))
  rintro _ rfl s1 xx
  refine ⟨old.1.keeps xx.toInCall.keep, codeAny_func ?_⟩
  have rA : Vals [V.ref q] [Value.ref q] := .cons (show RelV (V.ref q) (Value.ref q) from rfl) .nil
  have J0 := inv_start (CX := CXk P w) (P := P) (w := w) (mg := mg) (base := base) (E := E) S room.hd e0 rfl rA xx
  have hR := he cdv A outer s H E (room.deeper _)
  have hg := hgl cdv A outer s H E
  have h' : rdA K (fun cls dd _ H' => E cls dd H') (dCons dx (fun _ m => some (.ok [], m))) (L2.start ["self"] [.ref q]) H (fun vs H1 => ∃ a ws ρ1, vs = [.ref a] ∧ RM K ρ1 m H1 ∧ Ext ρ H ρ1 H1 ∧ SqT K H1 a ws ∧ (∀ ρ2 H2, Ext ρ1 H1 ρ2 H2 → SqT K H2 a ws) ∧ RVs K ρ1 H1 xs ws) := by
    have sA : Z.S K ρ [some xv] m (L2.start ["self"] [.ref q]) H := ⟨M, re_start (N := ["self"]) (xs := [xv]) (vs := [.ref q]) ⟨_, _, rfl, rx, rfl⟩⟩
    have eA : dCons dx (fun _ m => some (.ok [], m)) [some xv] m = some (.ok [.tup xs], m) := by
      unfold dCons bindR
      rw [ex]
    refine ⟨ρ, _, m, _, m, sA, eA, fun ρ1 H1 M1 E1 vs rv => ?_⟩
    obtain ⟨v, t, rfl, h1, h2⟩ := rv
    subst h2
    obtain ⟨a, ws, rfl, h3, h4⟩ := h1
    exact ⟨a, ws, ρ1, rfl, M1, E1, h3.sq, fun ρ2 H2 E2 => (h3.mono E2).sq, h4⟩
  refine wpAny_execs_cons (wpAny_Return_some (wpAny_Call_Name_kw (ld_blt J0 hg hm PyProof.Rows.boot_iter ?_ (by decide) (by decide))))
  refine PyProof.Rows.callWith_builtin1 (thn (((sa_cons hR sa_nil (hst _)).run (fun cls dd _ H' => E cls dd H') (Z.takes_of rfl rfl rfl rfl)).run pos [] s1 _ H _ J0 h') fun us s2 ⟨vs, H1, I1, rv, q1⟩ => ?_) (hst _) (hpl _)
  obtain ⟨a, ws, ρ1, rfl, M1, E1, h3, h4, h5⟩ := q1
  obtain ⟨u, rfl, ru⟩ := vals1 rv
  obtain rfl : u = Value.ref a := ru
  obtain ⟨its, rvs, pt, hz⟩ := I1.tuple h3
  refine call_iter_tup (show IsTup s2.heap a its.toArray from pt) ?_
  have I3 := I1.kept (h' := s2.heap.push { cls := Value.type "tuple_iterator", data := Data.fields #[Value.ref a, Value.int 0 0] }) (t' := s2.toks) fun b o e => Heap.get?_push_of_some _ e
  have sz : s.heap.objs.size ≤ s2.heap.objs.size := by
    exact Nat.le_of_lt (show s.heap.objs.size < s2.heap.objs.size from I1.lt)
  exact ⟨s2.heap.objs.size, a, rfl, ⟨_, Heap.get?_push_size _ rfl, rfl, rfl⟩, sz, .ref s2.heap.objs.size, H1, I3.os, I3.bare, I3.base, I3.hok, rfl, rfl, I1.hok.fresh (Nat.le_refl _), ρ1, ws, M1, E1, h3, h4, h5⟩
end
section
variable {X : Cx} {tg e : Expr} {da : DE} {c : Str} {f : Addr} {ts : List TD} {k : Nat} {dx : DE}
def iOwnD (c : Str) (dx : DE) (da : DE) : DA := fun env m => bindR (da env m) fun x m => match insD m x with
  | some (c', _) => if c' = c then (match dx [some x] m with
    | some (.ok (.tup xs), _) => some (.ok xs, m)
    | _ => none) else none
  | none => none
theorem si_own (O : OwnM X.K c "__iter__" f ts) (F : ItF X.prog X.w X.K X.mg X.base k f dx) (hr : Room k X.A) (hp : ∀ x m v m', dx [some x] m = some (.ok v, m') → m' = m) (ha : SE X e da) : SI X tg e (iOwnD c dx da) := ⟨fun W tk => ⟨fun pins s σ H R I h => by
  have h' : rdE X.K W da σ H (fun v H1 => ∃ q dd gs ρ1 m1 x xs, v = .ref q ∧ H1 q = some (.ins (He.ga X.K c) dd gs) ∧ RM X.K ρ1 m1 H1 ∧ RV X.K ρ1 H1 x (.ref q) ∧ dx [some x] m1 = some (.ok (.tup xs), m1) ∧ (∀ ρ' H', RM X.K ρ' m1 H' → Ext ρ1 H1 ρ' H' → ∀ J, ItOk X.K J ρ' H' xs → R J H')) := by
    obtain ⟨ρ, env, m, z, m', st, ee, pp⟩ := h
    unfold iOwnD bindR at ee
    split at ee
    · cases ee
    · rename_i x m1 h0
      dsimp only at ee
      split at ee
      · rename_i c' fs hi
        split at ee
        · rename_i hc
          subst hc
          split at ee
          · rename_i xs m2 hd
            cases ee
            obtain rfl := hp _ _ _ _ hd
            refine goE st h0 fun ρ' H' v s' E rv => ?_
            obtain ⟨q, dd, gs, rfl, h3, h4⟩ := insD_ok s'.mem rv hi
            exact ⟨q, dd, gs, ρ', _, x, xs, rfl, h3, s'.mem, rv, hd, fun ρ2 H2 M2 E2 J hJ => pp ρ2 H2 M2 (E.trans E2) J hJ⟩
          · cases ee
        · cases ee
      · cases ee
    · rename_i c' fs m1 h0
      cases ee
      exact exE st h0 fun ρ' H' dd s' E r => pp ρ' H' s'.mem E dd r
  refine thn ((ha.run W tk).run pins s σ H _ I h') fun v s1 ⟨y, H1, I1, ry, q, dd, gs, ρ1, m1, x, xs, ey, hq, M1, rx, hd, hR⟩ => ?_
  subst ey
  obtain rfl : v = Value.ref q := ry
  obtain ⟨mA, J, _⟩ := ins_get I1.hok hq
  obtain ⟨od, J, _⟩ := J.look
  refine pyIter_own I1.kIn J O.at_ O.fn (wpAny_call (codeAny_mono (F.run X.A X.stack s1 H1 q ρ1 m1 x xs (fun cls dd H' => W cls dd σ H') hr I1.env0 M1 rx hd) fun r s' hq' => ?_))
  cases r with
  | error er => exact tk.call I1 (fun _ _ _ h => h) hq'
  | ok fl =>
    cases fl with
    | ret u =>
      obtain ⟨it, a, rfl, ht, hsz, hc⟩ := hq'
      obtain ⟨v, H3, I3, rv, ev, hn, ρ3, ws, M3, E3, q3, q4, q5⟩ := I1.after hc
      refine ⟨?_, it, [it], _, _, H3, rfl, I3, turn_tuple a _, ht, fun b hb => ?_, hR ρ3 H3 M3 E3 _ (itOk_tup q4 q5)⟩
      · exact (isTupIter_of ht).typeIs
      · have e : b = it := by simpa using hb
        subst e
        exact I1.fpOk hsz hn
    | next => exact False.elim hq'
    | brk => exact False.elim hq'
    | cont => exact False.elim hq'⟩⟩
theorem fld_keep {cs : List Str} {fn : Str} (x : Vl) (m : Mem) (v : Vl) (m' : Mem) (h : dFld cs fn (dVar 0) [some x] m = some (.ok v, m')) : m' = m := by
  have h0 : dVar 0 [some x] m = some (.ok x, m) := rfl
  rw [dFld_ap, h0] at h
  unfold bindR at h
  dsimp only at h
  split at h
  · split at h
    · split at h
      · cases h
        rfl
      · cases h
    · cases h
  · cases h
end
end Z
namespace PySem.SeqAt
open AutoSeq1 (wpAny_loadPart')
open MeetsSeq
theorem int_eq_declines_ins (b : Int) (u : Tok) (l : Addr) (C dx : Addr) :
    Meets (Builtin.«int.__eq__» ⟨[.int b u, .ref l], []⟩) (fun _ R s => s.heap.get? l = some (PySem.W.instObj C dx) ∧ R (.ok (.ret .notImplemented)) s) :=
  .of_wp fun prog w A R s h => by obtain ⟨hp, g, d, tk, os⟩ := s; obtain ⟨hl, h⟩ := h; wp_walk using wpAny_loadPart' hl, wpAny_load hl; exact ⟨_, rfl, h⟩
theorem bool_eq_declines_ins (b : Bool) (l : Addr) (C dx : Addr) :
    Meets (Builtin.«int.__eq__» ⟨[.bool b, .ref l], []⟩) (fun _ R s => s.heap.get? l = some (PySem.W.instObj C dx) ∧ R (.ok (.ret .notImplemented)) s) :=
  .of_wp fun prog w A R s h => by obtain ⟨hp, g, d, tk, os⟩ := s; obtain ⟨hl, h⟩ := h; wp_walk using wpAny_loadPart' hl, wpAny_load hl; exact ⟨_, rfl, h⟩
theorem str_eq_declines_ins (b : Str) (u : Tok) (l : Addr) (C dx : Addr) :
    Meets (Builtin.«str.__eq__» ⟨[.str b u, .ref l], []⟩) (fun _ R s => s.heap.get? l = some (PySem.W.instObj C dx) ∧ R (.ok (.ret .notImplemented)) s) :=
  .of_wp fun prog w A R s h => by obtain ⟨hp, g, d, tk, os⟩ := s; obtain ⟨hl, h⟩ := h; wp_walk using wpAny_loadPart' hl, wpAny_load hl; exact ⟨_, rfl, h⟩
theorem list_eq_declines_ins (a l : Addr) (C dx : Addr) :
    Meets (Builtin.«list.__eq__» ⟨[.ref a, .ref l], []⟩) (fun _ R s => (∀ M : Model, PySem.W.Looks M s.heap (isSubtype (.ref C) (.type "list")) false) ∧ s.heap.get? l = some (PySem.W.instObj C dx) ∧ R (.ok (.ret .notImplemented)) s) :=
  .of_wp fun prog w A R s h => by
    obtain ⟨hp, g, d, tk, os⟩ := s; obtain ⟨hk, hl, h⟩ := h
    wp_walk using wpAny_loadPart' hl
    refine (hk _).here ?_
    wp_walk
    exact ⟨_, rfl, h⟩
theorem tuple_eq_declines_ins (a l : Addr) (C dx : Addr) :
    Meets (Builtin.«tuple.__eq__» ⟨[.ref a, .ref l], []⟩) (fun _ R s => (∀ M : Model, PySem.W.Looks M s.heap (isSubtype (.ref C) (.type "tuple")) false) ∧ s.heap.get? l = some (PySem.W.instObj C dx) ∧ R (.ok (.ret .notImplemented)) s) :=
  .of_wp fun prog w A R s h => by
    obtain ⟨hp, g, d, tk, os⟩ := s; obtain ⟨hk, hl, h⟩ := h
    wp_walk using wpAny_loadPart' hl
    refine (hk _).here ?_
    wp_walk
    exact ⟨_, rfl, h⟩
end PySem.SeqAt
namespace Z
variable [Kd]
open PySem PySem.Spec PyProof.Rows L2 PySem.SeqAt
def bsR : List String := ["NoneType", "bool", "int", "str", "tuple", "list"]
def kndR (m : Mem) : Vl → Option String
  | .non => some "NoneType"
  | .bl _ => some "bool"
  | .int _ => some "int"
  | .str _ => some "str"
  | .tup _ => some "tuple"
  | x => (match lisD m x with
    | some _ => some "list"
    | none => none)
structure DecR (prog : Program) (w : World) (s : Shared) (u : Value) (q : Addr) (T : String) : Prop where
  ty : s.TypeIs u T
  dec : ∀ (A : Around) (E : Value → Shared → Prop) (Q : Option Value → Shared → Prop), Q none s → wpAny (model prog w) A (tryCompare u "__eq__" (.ref q)) Q E s
section
variable {X : Cx} {pins : List (Addr × Obj)} {σ : L2.St} {H : Hp} {s : Shared} {ρ : Lay} {m : Mem} {x : Vl} {v : V} {u : Value} {q C dx : Addr} {T : String}
theorem declR (I : Inv X pins σ H s) (M : RM X.K ρ m H) (rx : RV X.K ρ H x v) (ru : RelV v u) (hk : kndR m x = some T) (hq : s.heap.get? q = some (PySem.W.instObj C dx)) (hs : ∀ T ∈ bsR, ∀ M : Model, PySem.W.Looks M s.heap (isSubtype (.ref C) (.type T)) false) : DecR X.prog X.w s u q T := by
  have lst : ∀ xs, lisD m x = some xs → T = "list" → DecR X.prog X.w s u q T := fun xs hx hT => by
    subst hT
    obtain ⟨p, vs, rfl, hl, _⟩ := lisD_ok M rx hx
    obtain rfl : u = Value.ref p := ru
    obtain ⟨its, rv, pl, hz⟩ := I.list hl
    have ty : s.TypeIs (.ref p) "list" := pl.isList.typeIs
    exact ⟨ty, fun A E Q hQ => wpAny_tryCompare_declines ty F.slot_list_eq (call_meets F.slot_list_eq ty F.entry_list_eq (F.args_list_eq_2 _ _) (list_eq_declines_ins p q C dx) ⟨hs "list" (by decide), hq, rfl, hQ⟩)⟩
  cases x with
  | non =>
    cases hk
    rw [show v = _ from rx] at ru
    obtain rfl : u = Value.none := ru
    exact ⟨rfl, fun A E Q hQ => wpAny_tryCompare_declines rfl F.slot_NoneType_eq (call_gives F.slot_NoneType_eq rfl F.entry_NoneType_eq (F.args_NoneType_eq_2 _ _) (NoneType___eq___none_ref_0 q) ⟨rfl, hQ⟩)⟩
  | bl b =>
    cases hk
    rw [show v = _ from rx] at ru
    obtain rfl : u = Value.bool b := ru
    exact ⟨rfl, fun A E Q hQ => wpAny_tryCompare_declines rfl F.slot_bool_eq (call_meets F.slot_bool_eq rfl F.entry_int_eq (F.args_int_eq_2 _ _) (bool_eq_declines_ins b q C dx) ⟨hq, rfl, hQ⟩)⟩
  | int b =>
    cases hk
    rw [show v = _ from rx] at ru
    obtain ⟨t, rfl⟩ := ru
    exact ⟨typeIs_int s b t, fun A E Q hQ => wpAny_tryCompare_declines (typeIs_int s b t) F.slot_int_eq (call_meets F.slot_int_eq (typeIs_int s b t) F.entry_int_eq (F.args_int_eq_2 _ _) (int_eq_declines_ins b t q C dx) ⟨hq, rfl, hQ⟩)⟩
  | str b =>
    cases hk
    rw [show v = _ from rx] at ru
    obtain ⟨t, rfl⟩ := ru
    exact ⟨typeIs_str s b t, fun A E Q hQ => wpAny_tryCompare_declines (typeIs_str s b t) F.slot_str_eq (call_meets F.slot_str_eq (typeIs_str s b t) F.entry_str_eq (F.args_str_eq_2 _ _) (str_eq_declines_ins b t q C dx) ⟨hq, rfl, hQ⟩)⟩
  | tup xs =>
    cases hk
    obtain ⟨a, vs, rfl, h1, _⟩ := rx
    obtain rfl : u = Value.ref a := ru
    obtain ⟨its, rv, pt, hz⟩ := I.tuple h1.sq
    have pt : s.heap.IsTuple a its.toArray := pt
    have ty : s.TypeIs (.ref a) "tuple" := pt.typeIs
    exact ⟨ty, fun A E Q hQ => wpAny_tryCompare_declines ty F.slot_tuple_eq (call_meets F.slot_tuple_eq ty F.entry_tuple_eq (F.args_tuple_eq_2 _ _) (tuple_eq_declines_ins a q C dx) ⟨hs "tuple" (by decide), hq, rfl, hQ⟩)⟩
  | lst xs =>
    have hk : (match lisD m (.lst xs) with
      | some _ => some "list"
      | none => none) = some T := hk
    split at hk
    · rename_i ys hy
      exact lst ys hy (by cases hk; rfl)
    · cases hk
  | frl xs =>
    have hk : (match lisD m (.frl xs) with
      | some _ => some "list"
      | none => none) = some T := hk
    split at hk
    · rename_i ys hy
      exact lst ys hy (by cases hk; rfl)
    · cases hk
  | obj n =>
    have hk : (match lisD m (.obj n) with
      | some _ => some "list"
      | none => none) = some T := hk
    split at hk
    · rename_i ys hy
      exact lst ys hy (by cases hk; rfl)
    · cases hk
  | _ => cases hk
end
def OwnR (K : PySem.W.Frag) (c : Str) : Prop := ∀ T ∈ bsR, PySem.W.subIn K (.ref (He.ga K c)) (.type T) = some false
def ckOwnR (c : Str) : Ck := fun K => bsR.all fun T => decide (PySem.W.subIn K (.ref (He.ga K c)) (.type T) = some false)
theorem ckOwnR_ok {K : PySem.W.Frag} {c : Str} (h : ckOwnR c K = true) : OwnR K c := fun T hT => of_decide_eq_true (List.all_eq_true.mp h T hT)
section
variable {X : Cx} {a b : Expr} {pos : Pos} {da db : DE} {c : Str} {cs : List Str} {ts : List TD} {f : Addr} {k : Nat} {gz : List Vl → List Vl → List Vl} {g : FD}
theorem knd_ty {m : Mem} {x : Vl} {T : String} (h : kndR m x = some T) : tyD m x = some (.b T) ∧ T ∈ bsR := by
  cases x with
  | obj n =>
    have h : (match lisD m (.obj n) with
      | some _ => some "list"
      | none => none) = some T := h
    split at h
    · rename_i xs hx
      cases h
      have hx : seqD m (.obj n) = some xs := hx
      unfold seqD at hx
      refine ⟨?_, by decide⟩
      show (match m[n]? with
        | some (.lst _) => some (TD.b "list")
        | some (.dic _) => some (.b "dict")
        | some (.dit _) => some (.b "dict")
        | some (.ins c _) => some (.c c)
        | _ => none) = _
      cases e : m[n]? with
      | none =>
        simp only [e] at hx
        cases hx
      | some cc =>
        cases cc with
        | lst ys => rfl
        | _ =>
          simp only [e] at hx
          cases hx
    · cases h
  | _ => first | (cases h; exact ⟨rfl, by decide⟩) | cases h
theorem rcR_own {A : Around} {E : Value → Shared → Prop} (hI : InsA X.K cs) (O : OwnM X.K c "__eq__" f ts) (OR : OwnR X.K c) (F : Fz X.prog X.w X.K X.mg X.base k f 2 [] gz g) (sb : Sub X k A) {pins : List (Addr × Obj)} {σ : L2.St} {H : Hp} {s : Shared} {Q : Value → Shared → Prop} {EE : XK}
    {u : Value} {y : V} {q dx : Addr} {gs : List (Str × V)} {ρ : Lay} {m m' : Mem} {xv yv : Vl} {r : Z.R Vl} {T : String} (I : Inv X pins σ H s) (hq : H q = some (.ins (He.ga X.K c) dx gs)) (ry : RelV y u) (M : RM X.K ρ m H) (rx : RV X.K ρ H xv (.ref q)) (ryv : RV X.K ρ H yv y)
    (ht : kndR m yv = some T) (e : g (gz [xv, yv] []) m = some (r, m')) (hE : ∀ e s', CXk X.prog X.w X.stack H s EE e s' → E e s')
    (p : ∀ ρ' H', RM X.K ρ' m' H' → Ext ρ H ρ' H' → match r with
      | .ok z => ∀ v w s', RV X.K ρ' H' z v → RelV v w → Inv X pins σ H' s' → Q w s'
      | .ex c fs => ∀ dd, XD X.K ρ' H' dd fs → EE (.ref (He.ga X.K c)) dd H') : wpAny (model X.prog X.w) A (richCompare .Eq u (.ref q)) Q E s := by
  obtain ⟨fd, ps, gs', gV, h1, h2, h3⟩ := F.ex
  obtain ⟨mA, J, _⟩ := ins_get I.hok hq
  obtain ⟨od, J, _⟩ := J.look
  obtain ⟨hty, hT⟩ := knd_ty ht
  obtain ⟨P, kx, hP, _⟩ := kit_of I ry (tyD_ok (cs := cs) hI M ryv hty rfl)
  have hl := kx.ty (model X.prog X.w) s.heap I.kIn hP
  have DR := declR I M ryv ry ht J.at_ (fun T hT M => PySem.W.looks_subIn I.kIn (OR T hT))
  have e0 : Env0 X.prog X.w X.K X.mg X.base A X.stack s H := by
    have e := I.env0
    exact ⟨by rw [sb.fr]; exact e.frames, e.mod, e.bs, e.bsz, e.funs, e.frf, e.hok, e.bare⟩
  obtain ⟨hl2, rg⟩ := h3 ρ H [xv, yv] [.ref q, y] [] [] rfl rfl ⟨_, _, rfl, rx, _, _, rfl, ryv, rfl⟩ rfl
  have r1 : Vals [V.ref q, y] [Value.ref q, u] := .cons rfl (.cons ry .nil)
  have r2 := h2.rel r1 (.nil : Vals [] [])
  have cc : wpAny (model X.prog X.w) A (call (.ref f) [.ref q, u]) (PySem.W.CmpBack Q) E s := by
    refine wpAny_call (codeAny_mono (h1.run A X.stack s H ⟨[.ref q, u], []⟩ (gs' [.ref q, u] []) (gV [.ref q, y] []) (fun v H' => ∃ ρ' z, r = .ok z ∧ RM X.K ρ' m' H' ∧ Ext ρ H ρ' H' ∧ RV X.K ρ' H' z v) EE sb.room e0 (h2.to s [.ref q, u] [] I.kIn rfl rfl) r2 ⟨hl2, ρ, m, _, r, m', M, rg, e, fun ρ' H' M' E' => ?_⟩) fun rr s' hq' => ?_)
    · have pp := p ρ' H' M' E'
      cases r with
      | ok z => exact fun v rv => ⟨ρ', z, rfl, M', E', rv⟩
      | ex c fs => exact pp
    · cases rr with
      | error er => exact hE er s' hq'
      | ok fl =>
        cases fl with
        | ret w =>
          obtain ⟨v, H', I', rv, ρ', z, rfl, M', E', rz⟩ := I.after hq'
          have pp := p ρ' H' M' E' v w s' rz rv I'
          show PySem.W.CmpBack Q w s'
          cases w with
          | notImplemented => cases v <;> first | (obtain ⟨_, hh⟩ := rv; cases hh) | cases rv
          | _ => exact pp
        | next => exact False.elim hq'
        | brk => exact False.elim hq'
        | cont => exact False.elim hq'
  have one : wpAny (model X.prog X.w) A (tryCompare (.ref q) "__eq__" u) (fun r s' => ∃ v, r = some v ∧ Q v s') E s := by
    unfold tryCompare
    refine wpAny_bind (PySem.W.ifBound_K I.kIn J O.at_ O.fn (wpAny_mono cc (fun v s' hv => ?_) fun _ _ e => e))
    cases v <;> first | exact hv.elim | exact wpAny_pure ⟨_, rfl, hv⟩
  unfold richCompare
  simp only [DR.ty.oneThing_none]
  refine wpAny_holding (wpAny_bind (wpAny_cRoomFor sb.room.units0 ?_))
  refine wpAny_bind (hl.here (wpAny_bind (J.type.here ?_)))
  have nt : ((TD.val X.K (.b T)) != Value.ref (He.ga X.K c)) = true := by
    show (Value.type T != Value.ref (He.ga X.K c)) = true
    simp
  simp only [nt, if_true]
  refine wpAny_bind ((PySem.W.looks_subIn I.kIn (show PySem.W.subIn X.K (.ref (He.ga X.K c)) (TD.val X.K (.b T)) = some false from OR T hT)).here ?_)
  simp only [Bool.false_eq_true, if_false, Bool.not_false, if_true]
  refine wpAny_bind (DR.dec A _ _ ?_)
  refine wpAny_bind (wpAny_mono one (fun r s' z => ?_) fun _ _ e => e)
  obtain ⟨v, rfl, hq⟩ := z
  exact wpAny_pure hq
/-- x == y, y an instance of the class c with its own ==, x a built-in value -/
def dCmpR (c : Str) (gz : List Vl → List Vl → List Vl) (g : FD) (da db : DE) : DE := fun env m => bindR (da env m) fun x m => bindR (db env m) fun y m => match insD m y, kndR m x with
  | some (c', _), some _ => if c' = c then g (gz [y, x] []) m else none
  | _, _ => none
@[simp] theorem dCmpR_ap {env : Ev} {m : Mem} : dCmpR c gz g da db env m = bindR (da env m) fun x m => bindR (db env m) fun y m => match insD m y, kndR m x with
  | some (c', _), some _ => if c' = c then g (gz [y, x] []) m else none
  | _, _ => none := rfl
theorem se_eqR (hI : InsA X.K cs) (O : OwnM X.K c "__eq__" f ts) (OR : OwnR X.K c) (F : Fz X.prog X.w X.K X.mg X.base k f 2 [] gz g) (hr : Room k X.A) (ha : SE X a da) (hb : SE X b db) (hm : behindInMarks .Eq b = false := by rfl) :
    SE X (.Compare a [.Eq] [b] pos) (dCmpR c gz g da db) := ⟨fun W tk => ⟨fun pins s σ H Q I h => by
  obtain ⟨ρ, env, m, z, m', st, ee, pp⟩ := h
  refine wpAny_Compare1 ?_ hm
  have h' : rdE X.K W da σ H (fun v H1 => rdE X.K W db σ H1 fun u H2 => ∃ q dx gs ρ' m1 xv yv T, u = .ref q ∧ H2 q = some (.ins (He.ga X.K c) dx gs) ∧ RM X.K ρ' m1 H2 ∧ RV X.K ρ' H2 xv u ∧ RV X.K ρ' H2 yv v ∧ kndR m1 yv = some T ∧ g (gz [xv, yv] []) m1 = some (z, m') ∧ Po X.K ρ' H2 (RV X.K) (fun c dd H' => W c dd σ H') Q z m') :=
    bindE st ee pp fun x m1 ρ1 H1 v s1 E1 r1 e1 p1 => bindE s1 e1 p1 fun y m2 ρ2 H2 u s2 E2 r2 e2 p2 => by
      split at e2
      · rename_i c' fs T hi ht
        split at e2
        · rename_i hc
          subst hc
          obtain ⟨q, dx, gs, rfl, h3, h4⟩ := insD_ok s2.mem r2 hi
          exact ⟨q, dx, gs, ρ2, m2, y, x, T, rfl, h3, s2.mem, r2, r1.mono E2, ht, e2, p2⟩
        · cases e2
      · cases e2
  refine thn ((ha.run W tk).run pins s σ H _ I h') fun v s1 ⟨x, H1, I1, rx, q1⟩ => ?_
  refine thn ((hb.run W tk).run pins s1 σ H1 _ I1 q1) fun u s2 ⟨y, H2, I2, ry, q, dx, gs, ρ2, m2, xv, yv, T, ex, hq, M2, rxv, ryv, ht, eg, p2⟩ => ?_
  subst ex
  obtain rfl : u = Value.ref q := ry
  show wpAny (model X.prog X.w) X.A (richCompare .Eq v (.ref q)) _ _ s2
  refine rcR_own (EE := fun c dd H' => W c dd σ H') hI O OR F ⟨hr, rfl⟩ I2 hq rx M2 rxv ryv ht eg (fun er s' hx => tk.call I2 (fun _ _ _ h => h) hx) fun ρ' H' M' E' => ?_
  have p3 := p2 ρ' H' M' E'
  cases z with
  | ok z => exact fun v w s' rz rv I' => ⟨v, H', I', rv, p3 v rz⟩
  | ex c fs => exact p3⟩⟩
end
def ownRQ (c : Str) (q : Vl → Vl → Mem → Option Bool) : Vl → Vl → Mem → Option Bool := fun x y m => match insD m y, kndR m x with
  | some (c', _), some _ => if c' = c then q x y m else none
  | _, _ => none
theorem eq_ownR {X : Cx} {k : Nat} {c : Str} {cs : List Str} {ts : List TD} {gz : List Vl → List Vl → List Vl} {g : FD} {q : Vl → Vl → Mem → Option Bool} {f : Addr} (hI : InsA X.K cs) (O : OwnM X.K c "__eq__" f ts) (OR : OwnR X.K c) (F : Fz X.prog X.w X.K X.mg X.base k f 2 [] gz g)
    (hg : ∀ x y m b, q x y m = some b → g (gz [y, x] []) m = some (.ok (.bl b), m)) : EQ X k (ownRQ c q) := fun A pins s σ ρ m H x y a b u v r sb I ra rb M rx ry e => by
  unfold ownRQ at e
  split at e
  · rename_i c' fs T hi ht
    split at e
    · rename_i hc
      subst hc
      obtain ⟨p, dx, gs, rfl, h3, h4⟩ := insD_ok M ry hi
      obtain rfl : v = Value.ref p := rb
      obtain ⟨mA, J, _⟩ := ins_get I.hok h3
      obtain ⟨od, J, _⟩ := J.look
      obtain ⟨hty, hT⟩ := knd_ty ht
      have DR := declR I M rx ra ht J.at_ (fun T hT M => PySem.W.looks_subIn I.kIn (OR T hT))
      have hne : u ≠ Value.ref p := fun e => by
        subst e
        obtain ⟨o, ho, hcl⟩ := DR.ty
        rw [J.at_] at ho
        cases ho
        cases hcl
      have hfl : ∀ z t, u ≠ .float z t := fun z t e => by
        subst e
        cases x with
        | non => rw [show a = _ from rx] at ra; cases ra
        | bl _ => rw [show a = _ from rx] at ra; cases ra
        | int _ => rw [show a = _ from rx] at ra; obtain ⟨_, hh⟩ := ra; cases hh
        | str _ => rw [show a = _ from rx] at ra; obtain ⟨_, hh⟩ := ra; cases hh
        | tup _ => obtain ⟨_, _, rfl, _⟩ := rx; cases ra
        | lst _ => obtain ⟨_, _, rfl, _⟩ := rx; cases ra
        | frl _ => obtain ⟨_, _, rfl, _⟩ := rx; cases ra
        | obj _ => obtain ⟨_, rfl, _⟩ := rx; cases ra
        | _ => cases ht
      refine ZQ.eqBool_ne hne hfl (rcR_own (EE := fun _ _ _ => False) hI O OR F sb I h3 ra M ry rx ht (hg _ _ _ _ e) (fun er s' hx => ?_) fun ρ' H' M' E' => ?_)
      · exact (cxk_no hx).elim
      · intro z w s' rz rw_ I'
        obtain rfl : z = .bl r := rz
        obtain rfl : w = Value.bool r := rw_
        exact ⟨r, rfl, rfl, ρ', H', M', E', I'⟩
    · cases e
  · cases e
section
variable {X : Cx} {a b : Expr} {pos : Pos} {da db : DE} {c : Str} {ts : List TD} {f : Addr} {k : Nat} {gz : List Vl → List Vl → List Vl} {g : FD}
/-- o[i] of an own class, errors too -/
def dIxE (c : Str) (gz : List Vl → List Vl → List Vl) (g : FD) (da db : DE) : DE := fun env m => bindR (da env m) fun x m => bindR (db env m) fun y m => match insD m x with
  | some (c', _) => if c' = c then g (gz [x, y] []) m else none
  | none => none
theorem se_ixE (O : OwnM X.K c "__getitem__" f ts) (hfi : PySem.W.fnIn X.K f = true) (F : Fz X.prog X.w X.K X.mg X.base k f 2 [] gz g) (hr : Room (k + 1) X.A) (ha : SE X a da) (hb : SE X b db)
    (hsl : ∀ x i : Value, subscripted b true x i = runValue (.builtin "lifetime.subscript" ⟨[x, i], []⟩) := by intro _ _; with_unfolding_all rfl) : SE X (.Subscript a b pos) (dIxE c gz g da db) := ⟨fun W tk => ⟨fun pins s σ H Q I h => by
  obtain ⟨ρ, env, m, z, m', st, ee, pp⟩ := h
  have h' : rdE X.K W da σ H (fun v H1 => rdE X.K W db σ H1 fun u H2 => ∃ q dx gs ρ1 m1 xs, v = .ref q ∧ H2 q = some (.ins (He.ga X.K c) dx gs) ∧ RM X.K ρ1 m1 H2 ∧ RVs X.K ρ1 H2 xs [.ref q, u] ∧ xs.length = 2 ∧ g (gz xs []) m1 = some (z, m') ∧ Po X.K ρ1 H2 (RV X.K) (fun c dd H' => W c dd σ H') Q z m') :=
    bindE st ee pp fun x m1 ρ1 H1 v s1 E1 r1 e1 p1 => bindE s1 e1 p1 fun y m2 ρ2 H2 u s2 E2 r2 e2 p2 => by
      split at e2
      · rename_i c' fs hi
        split at e2
        · rename_i hc
          subst hc
          obtain ⟨q, dx, gs, rfl, h3, h4⟩ := insD_ok s2.mem (r1.mono E2) hi
          exact ⟨q, dx, gs, ρ2, m2, [x, y], rfl, h3, s2.mem, ⟨_, _, rfl, r1.mono E2, _, _, rfl, r2, rfl⟩, rfl, e2, p2⟩
        · cases e2
      · cases e2
  refine Subscript_ (thn ((ha.run W tk).run pins s σ H _ I h') fun v s1 ⟨x, H1, I1, rx, q1⟩ => thn ((hb.run W tk).run pins s1 σ H1 _ I1 q1) fun u s2 ⟨y, H2, I2, ry, q, dx, gs, ρ1, m1, xs, ex, hq, M1, rxs, hl, hgn, p1⟩ => ?_)
  subst ex
  obtain rfl : v = Value.ref q := rx
  obtain ⟨mA, J, _⟩ := ins_get I2.hok hq
  obtain ⟨od, J, _⟩ := J.look
  obtain ⟨m0, hF⟩ := I2.fr
  obtain ⟨fd, ps, gs', gV, h1, h2, h3⟩ := F.ex
  obtain ⟨hl2, rg⟩ := h3 ρ1 H2 xs [.ref q, y] [] [] hl rfl rxs rfl
  have r1 : Vals [V.ref q, y] [Value.ref q, u] := .cons rfl (.cons ry .nil)
  have r2 := h2.rel r1 (.nil : Vals [] [])
  refine PySem.W.sub_K hF I2.ok.mod.kin J O.at_ hfi O.fn (wpAny_call (codeAny_mono (h1.run X.A.in1 X.stack s2 H2 ⟨[.ref q, u], []⟩ (gs' [.ref q, u] []) (gV [.ref q, y] []) Q (fun c dd H' => W c dd σ H') hr.in1 I2.env0.in1 (h2.to _ [.ref q, u] [] I2.kIn rfl rfl) r2
    ⟨hl2, ρ1, m1, _, _, m', M1, rg, hgn, p1⟩) fun r s' hq' => ?_)) (hsl _ _)
  cases r with
  | error er => exact tk.call I2 (fun _ _ _ h => h) hq'
  | ok fl =>
    cases fl with
    | ret u => exact I2.after hq'
    | next => exact False.elim hq'
    | brk => exact False.elim hq'
    | cont => exact False.elim hq'⟩⟩
@[simp] theorem dIxE_ap {env : Ev} {m : Mem} : dIxE c gz g da db env m = bindR (da env m) fun x m => bindR (db env m) fun y m => match insD m x with
  | some (c', _) => if c' = c then g (gz [x, y] []) m else none
  | none => none := rfl
end
theorem isi_knd {cs : List Str} {kt : Kit} {x : Vl} {m : Mem} {T : String} (h : kndR m x = some T) (c : Str) (hc : ∀ T ∈ bsR, kt (.b T) (.c c) = some false) : isiF cs kt [x, .glo c] m = some (.bl false, m) := by
  obtain ⟨h1, h2⟩ := knd_ty h
  have h3 := hc T h2
  unfold isiF
  simp only [h1, show clsD (.glo c) = some (TD.c c) from rfl, show tdOk cs (.b T) = true from rfl, if_true, h3]
end Z
namespace Z
open PySem PySem.Spec PyProof.Rows L2
variable [Kd]
/-! ### an int in three columns, as the format spec >3 writes it -/
section
open Builtin Builtin.Str Builtin.Int
def fmt3 (a : Int) : Str :=
  let sign : List Nat := if decide (a < 0) = true then [45] else []
  let digits := (Nat.toDigits 10 a.natAbs).map Char.toNat
  let ds := if digits.isEmpty then [] else List.replicate ((0 : Int).toNat - digits.length) 48 ++ digits
  let pad := ((3 : Int) - ((sign.length : Int) + (([] : List Nat).length : Int) + (([] : List Nat).length : Int)) - (ds.length : Int)).toNat
  ⟨(List.replicate pad 32 ++ sign ++ [] ++ List.replicate 0 32 ++ ds ++ [] ++ List.replicate 0 32).toArray⟩
theorem fmt_eq (a : Int) (t u : Tok) : «int.__format__» ⟨[.int a t, .str ">3" u], []⟩ = (typeNameOf (.str ">3" u) >>= fun _ => typeNameOfCut 200 (.int a t) >>= fun _ => do
    if let some n ← overDigitLimit? a then
      rule "int.format.digit-limit"
      raiseError "ValueError" s!"Exceeds the limit ({n} digits) for integer string conversion; use sys.set_int_max_str_digits() to increase the limit"
    retStr (fmt3 a)) := by
  kernel_rfl
theorem gives_fmt3 {a : Int} {t u : Tok} (h : a.natAbs.log2 < 1920) : Gives («int.__format__» ⟨[.int a t, .str ">3" u], []⟩) (.str (fmt3 a)) := by
  rw [fmt_eq, PySem.overDigitLimit_small h]
  refine gives_after_typeNameOf (T := "str") (fun s => typeIs_str s _ _) (by decide) fun _ => ?_
  intro prog w A R s hq
  exact wpAny_bind (wpAny_typeNameOfCut_int (Gives.of_eq (m := .str (fmt3 a)) rfl prog w A R s hq))
end
theorem fmt3_len : ∀ n : Fin 1000, (fmt3 (n.val : Int)).length = 3 := by decide +kernel
theorem log2_small : ∀ n : Fin 1000, n.val.log2 < 1920 := by decide +kernel
section
variable {X : Cx} {e spec o : Expr} {te ts : TE} {de : DE} {d : DA} {pos apos : Pos}
theorem pe_fmt3 (he : PE X e te) (hs : PE X spec ts) : PE X (.FormattedValue e (-1) (some spec) pos) (fun σ H Q => te σ H fun x H1 => ∃ i : Int, x = .int i ∧ (0 ≤ i ∧ i ≤ 999) ∧ ts σ H1 fun y H2 => y = .str ">3" ∧ Q (.str (fmt3 i)) H2) := by
  refine ⟨fun pins s σ H Q I h => ?_⟩
  refine wpAny_FormattedValue_spec (thn (he.run pins s σ H _ I h) fun v s1 hv => ?_)
  obtain ⟨x, H1, I1, r1, i, rfl, hz, q⟩ := hv
  obtain ⟨t, rfl⟩ := r1
  refine thn (hs.run pins s1 σ H1 _ I1 q) fun v2 s2 hv2 => ?_
  obtain ⟨y, H2, I2, r2, rfl, q2⟩ := hv2
  obtain ⟨t2, rfl⟩ := r2
  have hl : i.natAbs.log2 < 1920 := log2_small ⟨i.natAbs, by omega⟩
  have hf : (fmt3 i).length = 3 := by
    have := fmt3_len ⟨i.toNat, by omega⟩
    rw [show ((i.toNat : Nat) : Int) = i by omega] at this
    exact this
  exact ⟨_, t2, rfl, wpAny_formatField_spec (by decide) (fun s' => typeIs_int s' i t) F.slot_int_format F.entry_int_format F.args_int_format_2 (fun u => gives_fmt3 hl) ⟨.str (fmt3 i), H2, I2.tok _, ⟨_, rfl⟩, q2⟩ (by decide) (by rw [hf]; decide)⟩
def dFmt3 (de ds : DE) : DE := fun env m => bindR (de env m) fun x m => match x with
  | .int i => if (decide (0 ≤ i) && decide (i ≤ 999)) = true then bindR (ds env m) fun y m => (match y with
      | .str t => if (t == ">3") = true then some (.ok (.str (fmt3 i)), m) else none
      | _ => none) else none
  | _ => none
theorem se_fmt3 {ds : DE} (he : SE X e de) (hs : SE X spec ds) : SE X (.FormattedValue e (-1) (some spec) pos) (dFmt3 de ds) := ⟨fun W tk =>
  impPE (pe_fmt3 (he.run W tk) (hs.run W tk)) fun σ H Q ⟨ρ, env, m, z, m', s, e, p⟩ => bindE s e p fun x m1 ρ1 H1 v s1 E1 r1 e1 p1 => by
    split at e1
    · rename_i i
      split at e1
      · rename_i c
        rw [Bool.and_eq_true, decide_eq_true_eq, decide_eq_true_eq] at c
        refine ⟨i, by rw [show v = V.int i from r1], c, bindE s1 e1 p1 fun y m2 ρ2 H2 u s2 E2 r2 e2 p2 => ?_⟩
        split at e2
        · rename_i t
          split at e2
          · rename_i ht
            cases e2
            rw [eq_of_beq ht] at r2
            exact ⟨by rw [show u = V.str ">3" from r2], p2 ρ2 H2 s2.mem .refl _ rfl⟩
          · cases e2
        · cases e2
      · cases e1
    · cases e1⟩
/-- {x}: a text or an int -/
def dFmt (de : DE) : DE := fun env m => bindR (de env m) fun x m => match x with
  | .str y => if y.length ≤ sizeLine then some (.ok (.str y), m) else none
  | .int i => if i.natAbs.log2 < 1920 then some (.ok (.str (toString i)), m) else none
  | _ => none
theorem se_fmt (he : SE X e de) : SE X (.FormattedValue e (-1) none pos) (dFmt de) := ⟨fun W tk =>
  impPE (pe_fmt (he.run W tk)) fun σ H Q ⟨ρ, env, m, z, m', s, e, p⟩ => bindE s e p fun x m1 ρ1 H1 v s1 E1 r1 e1 p1 => by
    split at e1
    · rename_i y
      split at e1
      · rename_i c
        cases e1
        exact .inl ⟨y, by rw [show v = V.str y from r1], c, p1 ρ1 H1 s1.mem .refl _ rfl⟩
      · cases e1
    · rename_i i
      split at e1
      · rename_i c
        cases e1
        exact .inr ⟨i, by rw [show v = V.int i from r1], c, p1 ρ1 H1 s1.mem .refl _ rfl⟩
      · cases e1
    · cases e1⟩
end
/-! ### f-strings -/
def dJ : List DE → Str → DE
  | [], acc => fun env m => some (.ok (.str acc), m)
  | de :: ds, acc => fun env m => bindR (de env m) fun x m => match x with
    | .str y => if (acc ++ y).length ≤ sizeLine then dJ ds (acc ++ y) env m else none
    | _ => none
inductive SJ (X : Cx) : List Expr → List DE → Prop
  | nil : SJ X [] []
  | cons {e : Expr} {de : DE} {es : List Expr} {ds : List DE} (h : SE X e de) (r : SJ X es ds) : SJ X (e :: es) (de :: ds)
section
variable {X : Cx} {e v1 v2 : Expr} {rest : List Expr} {de : DE} {ds : List DE} {pos : Pos}
theorem sj_pj {W : WX} (tk : Takes X W) {es : List Expr} {ds : List DE} (h : SJ X es ds) : ∃ ts, PJ X es ts ∧ ∀ (acc : Str) (σ : L2.St) (H : Hp) (Q : Str → Hp → Prop), rdE X.K W (dJ ds acc) σ H (fun v H' => ∃ out, v = .str out ∧ Q out H') → tJs ts acc σ H Q := by
  induction h with
  | nil =>
    refine ⟨[], .nil, fun acc σ H Q h => ?_⟩
    obtain ⟨ρ, env, m, r, m', s, e, p⟩ := h
    cases e
    obtain ⟨out, e, q⟩ := p ρ H s.mem .refl (V.str acc) rfl
    cases e
    exact q
  | @cons e de es ds he r ih =>
    obtain ⟨ts, h1, h2⟩ := ih
    refine ⟨_ :: ts, .cons (he.run W tk) h1, fun acc σ H Q h => ?_⟩
    obtain ⟨ρ, env, m, r, m', s, e, p⟩ := h
    refine bindE s e p fun x m1 ρ1 H1 v s1 E1 r1 e1 p1 => ?_
    split at e1
    · rename_i y
      split at e1
      · rename_i c
        exact ⟨y, by rw [show v = V.str y from r1], c, h2 (acc ++ y) σ H1 Q ⟨ρ1, env, m1, _, _, s1, e1, p1⟩⟩
      · cases e1
    · cases e1
theorem se_joined (h : SJ X (v1 :: v2 :: rest) ds) : SE X (.JoinedStr (v1 :: v2 :: rest) pos) (dJ ds Str.empty) := ⟨fun W tk => by
  obtain ⟨ts, h1, h2⟩ := sj_pj tk h
  refine impPE (pe_joined h1) fun σ H Q h => h2 Str.empty σ H _ ?_
  obtain ⟨ρ, env, m, r, m', s, e, p⟩ := h
  refine ⟨ρ, env, m, r, m', s, e, fun ρ' H' M E => ?_⟩
  have pp := p ρ' H' M E
  cases r with
  | ex c fs => exact pp
  | ok x =>
    intro v rv
    have key : ∀ (ds : List DE) (acc : Str) (m : Mem), dJ ds acc env m = some (.ok x, m') → ∃ out, x = .str out := by
      intro ds
      induction ds with
      | nil =>
        intro acc m e
        cases e
        exact ⟨_, rfl⟩
      | cons de ds ih =>
        intro acc m e
        unfold dJ bindR at e
        split at e
        · cases e
        · dsimp only at e
          split at e
          · split at e
            · exact ih _ _ e
            · cases e
          · cases e
        · cases e
    obtain ⟨out, rfl⟩ := key ds _ m e
    exact ⟨out, by rw [show v = V.str out from rv], pp _ rfl⟩⟩
theorem se_joined1 (he : SE X e de) : SE X (.JoinedStr [e] pos) de := ⟨fun W tk => pe_joined1 (he.run W tk)⟩
end
/-! ### x.partition(sep), x.rjust(n), x.lstrip(signs) -/
section
variable {X : Cx} {pos apos : Pos} {e o : Expr} {d : DA} {de : DE}
def partF : FM := fun x xs m => match x, xs with
  | .str a, [.str b] => if (!(b.length == 0) && decide (a.length ≤ sizeLine)) = true then some (.tup [.str (Txt.partition a b).1, .str (Txt.partition a b).2.1, .str (Txt.partition a b).2.2], m) else none
  | _, _ => none
theorem smf_part {K : PySem.W.Frag} : SMF K partF "str" (fun x xs H Q => ∃ a b, x = .str a ∧ xs = [.str b] ∧ (b.length == 0) = false ∧ a.length ≤ sizeLine ∧
    ∀ p, H p = none → Q (.ref p) (upd H p (.tup [.str (Txt.partition a b).1, .str (Txt.partition a b).2.1, .str (Txt.partition a b).2.2]))) := fun ρ m H x xs v vs z m' Q M a b e k => by
  unfold partF at e
  split at e
  · rename_i t y
    split at e
    · rename_i c
      cases e
      rw [Bool.and_eq_true, decide_eq_true_eq] at c
      obtain ⟨w, s, rfl, h1, h2⟩ := b
      subst h2
      refine ⟨t, y, by rw [show v = V.str t from a], by rw [show w = V.str y from h1], by simpa using c.1, c.2, fun p hp => ?_⟩
      exact k ρ _ (.ref p) (M.laid hp) (ext_new hp) ⟨p, _, rfl, .inl ⟨M.fresh hp, .inl upd_same⟩, _, _, rfl, rfl, _, _, rfl, rfl, _, _, rfl, rfl, rfl⟩
    · cases e
  · cases e
theorem se_partition (ho : SE X o de) (ha : SA X [e] d)
    (hbase : attributeBase o "partition" X.env (eval o X.env) = eval o X.env := by rfl)
    (hfew : ((backTo pos (starEach [e] X.env)).all (fun x => !x.1) && (backToKw pos (keywordEach [] X.env)).all (fun x => x.1.isSome)
      && decide ([e].length + ([] : List Keyword).length + (if ([] : List Keyword).isEmpty then 0 else 1) < 30)) = true := by rfl)
    (hline : (apos.endLine == pos.line) = true := by rfl) (hs : starEach [e] X.env = (false, eval e X.env) :: starEach [] X.env := by rfl) (hplain : (backTo pos (starEach [] X.env)).any (·.1) = false := by rfl) :
    SE X (.Call (.Attribute o "partition" apos) [e] [] pos) (dM "str" partF de d) := se_bm PySem.F.plainAttrs_str PySem.F.slot_str_partition PySem.F.type_str_partition mt_partition smf_part ho ha hbase hfew hline hs hplain
def rjustF : FM := fun x xs m => match x, xs with
  | .str a, [.int i] => if PadOk i = true then some (.str (Txt.rjust a i), m) else none
  | _, _ => none
theorem smf_rjust {K : PySem.W.Frag} : SMF K rjustF "str" (fun x xs H Q => ∃ (a : Str) (i : Int), x = .str a ∧ xs = [.int i] ∧ PadOk i = true ∧ Q (.str (Txt.rjust a i)) H) := fun ρ m H x xs v vs z m' Q M a b e k => by
  unfold rjustF at e
  split at e
  · rename_i t y
    split at e
    · rename_i c
      cases e
      obtain ⟨w, s, rfl, h1, h2⟩ := b
      subst h2
      exact ⟨t, y, by rw [show v = V.str t from a], by rw [show w = V.int y from h1], c, k ρ _ _ M .refl rfl⟩
    · cases e
  · cases e
theorem se_rjust (ho : SE X o de) (ha : SA X [e] d)
    (hbase : attributeBase o "rjust" X.env (eval o X.env) = eval o X.env := by rfl)
    (hfew : ((backTo pos (starEach [e] X.env)).all (fun x => !x.1) && (backToKw pos (keywordEach [] X.env)).all (fun x => x.1.isSome)
      && decide ([e].length + ([] : List Keyword).length + (if ([] : List Keyword).isEmpty then 0 else 1) < 30)) = true := by rfl)
    (hline : (apos.endLine == pos.line) = true := by rfl) (hs : starEach [e] X.env = (false, eval e X.env) :: starEach [] X.env := by rfl) (hplain : (backTo pos (starEach [] X.env)).any (·.1) = false := by rfl) :
    SE X (.Call (.Attribute o "rjust" apos) [e] [] pos) (dM "str" rjustF de d) := se_bm PySem.F.plainAttrs_str PySem.F.slot_str_rjust PySem.F.type_str_rjust mt_rjust smf_rjust ho ha hbase hfew hline hs hplain
def lstripCF : FM := fun x xs m => match x, xs with
  | .str a, [.str b] => if a.length ≤ sizeLine then some (.str (Txt.lstripChars a b), m) else none
  | _, _ => none
theorem smf_lstripC {K : PySem.W.Frag} : SMF K lstripCF "str" (fun x xs H Q => ∃ a b, x = .str a ∧ xs = [.str b] ∧ a.length ≤ sizeLine ∧ Q (.str (Txt.lstripChars a b)) H) := fun ρ m H x xs v vs z m' Q M a b e k => by
  unfold lstripCF at e
  split at e
  · rename_i t y
    split at e
    · rename_i c
      cases e
      obtain ⟨w, s, rfl, h1, h2⟩ := b
      subst h2
      exact ⟨t, y, by rw [show v = V.str t from a], by rw [show w = V.str y from h1], c, k ρ _ _ M .refl rfl⟩
    · cases e
  · cases e
theorem se_lstripC (ho : SE X o de) (ha : SA X [e] d)
    (hbase : attributeBase o "lstrip" X.env (eval o X.env) = eval o X.env := by rfl)
    (hfew : ((backTo pos (starEach [e] X.env)).all (fun x => !x.1) && (backToKw pos (keywordEach [] X.env)).all (fun x => x.1.isSome)
      && decide ([e].length + ([] : List Keyword).length + (if ([] : List Keyword).isEmpty then 0 else 1) < 30)) = true := by rfl)
    (hline : (apos.endLine == pos.line) = true := by rfl) (hs : starEach [e] X.env = (false, eval e X.env) :: starEach [] X.env := by rfl) (hplain : (backTo pos (starEach [] X.env)).any (·.1) = false := by rfl) :
    SE X (.Call (.Attribute o "lstrip" apos) [e] [] pos) (dM "str" lstripCF de d) := se_bm PySem.F.plainAttrs_str PySem.F.slot_str_lstrip PySem.F.type_str_lstrip mt_lstripChars smf_lstripC ho ha hbase hfew hline hs hplain
end
/-! ### int(text) -/
def intTF : FB := fun xs m => match xs with
  | [.str a] => if a.length ≤ 640 then (match PySem.intText? a with
      | some n => some (.int n, m)
      | none => none) else none
  | _ => none
theorem scf_intT {K : PySem.W.Frag} : SCF K intTF (fun xs H Q => ∃ a n, xs = [.str a] ∧ PySem.intText? a = some n ∧ a.length ≤ 640 ∧ Q (.int n) H) := fun ρ m H xs vs z m' Q M a e k => by
  unfold intTF at e
  split at e
  · rename_i t
    split at e
    · rename_i hc
      split at e
      · rename_i n hn
        cases e
        obtain ⟨v, s, rfl, h1, h2⟩ := a
        subst h2
        exact ⟨t, n, by rw [show v = V.str t from h1], hn, hc, k ρ H _ M .refl rfl⟩
      · cases e
    · cases e
  · cases e
section
variable {X : Cx} {p pos : Pos} {e : Expr} {es : List Expr} {d : DA}
theorem se_intT (hg : Gl X "int") (hm : X.mg "int" = none) (ha : SA X (e :: es) d) (he : starEach (e :: es) X.env = (false, eval e X.env) :: starEach es X.env := by rfl) (hpl : (backTo pos (starEach es X.env)).any (·.1) = false := by rfl) :
    SE X (.Call (.Name "int" p) (e :: es) [] pos) (dB intTF d) := se_callTy call_int_str scf_intT hg hm (by decide +kernel) ha (by decide) (by decide) he hpl
end
/-! ### what they compute -/
section
variable {env : Ev} {m : Mem} {de ds : DE} {dl : List DE} {acc : Str} {a b : Str} {i : Int}
@[simp] theorem dFmt3_ap : dFmt3 de ds env m = bindR (de env m) fun x m => match x with
  | .int i => if (decide (0 ≤ i) && decide (i ≤ 999)) = true then bindR (ds env m) fun y m => (match y with
      | .str t => if (t == ">3") = true then some (.ok (.str (fmt3 i)), m) else none
      | _ => none) else none
  | _ => none := rfl
@[simp] theorem dFmt_ap : dFmt de env m = bindR (de env m) fun x m => match x with
  | .str y => if y.length ≤ sizeLine then some (.ok (.str y), m) else none
  | .int i => if i.natAbs.log2 < 1920 then some (.ok (.str (toString i)), m) else none
  | _ => none := rfl
@[simp] theorem dJ_nil : dJ [] acc env m = some (.ok (.str acc), m) := rfl
@[simp] theorem dJ_cons : dJ (de :: dl) acc env m = bindR (de env m) fun x m => match x with
    | .str y => if (acc ++ y).length ≤ sizeLine then dJ dl (acc ++ y) env m else none
    | _ => none := rfl
theorem partF_str (h : (b.length == 0) = false) (hz : a.length ≤ sizeLine) : partF (.str a) [.str b] m = some (.tup [.str (Txt.partition a b).1, .str (Txt.partition a b).2.1, .str (Txt.partition a b).2.2], m) := by
  unfold partF
  simp only [h, hz, Bool.not_false, decide_true, Bool.and_self, if_true]
theorem intTF_str {n : Int} (h : PySem.intText? a = some n) (hz : a.length ≤ 640) : intTF [.str a] m = some (.int n, m) := by
  unfold intTF
  simp only [h, hz, if_true]
theorem rjustF_str (h : PadOk i = true) : rjustF (.str a) [.int i] m = some (.str (Txt.rjust a i), m) := by
  unfold rjustF
  simp only [h, if_true]
theorem lstripCF_str (h : a.length ≤ sizeLine) : lstripCF (.str a) [.str b] m = some (.str (Txt.lstripChars a b), m) := by
  unfold lstripCF
  simp only [h, if_true]
end
end Z
namespace Z
open PySem PySem.Spec PyProof.Rows L2
/-! ### a try whose clauses may raise: its body lets out exceptions without a context -/
abbrev coldI : Kd := ⟨false⟩
def hdR (ex : ExT) : List (Str × DS) → Str → List (Str × Vl) → DS
  | [], c, fs => fun env m => some (.ex c fs env, m)
  | (k, ds) :: r, c, fs => fun env m => match ex c k with
    | none => none
    | some false => hdR ex r c fs env m
    | some true => ds env m
def dTryR (ex : ExT) (d : DS) (hs : List (Str × DS)) : DS := fun env m => match d env m with
  | some (.ex c fs env1, m1) => hdR ex hs c fs env1 m1
  | r => r
def wTryR (K : PySem.W.Frag) (ex : ExT) (W : WX) (D : Ends) (hs : List (Str × DS)) : WX := fun cls dd σ H => ∃ c fs ρ env m f m', cls = .ref (He.ga K c) ∧ S K ρ env m σ H ∧ XD K ρ H dd fs ∧ hdR ex hs c fs env m = some (f, m') ∧ PoS K ρ H W D f m'
theorem rdS_tryR [Kd] {K : PySem.W.Frag} {ex : ExT} {W : WX} {D : Ends} {hs : List (Str × DS)} {d : DS} {σ : L2.St} {H : Hp} (h : rdS K W (dTryR ex d hs) D σ H) : rdS K (wTryR K ex W D hs) d D σ H := by
  obtain ⟨ρ, env, m, f, m', s, e, p⟩ := h
  unfold dTryR at e
  split at e
  · rename_i c fs env1 m1 h0
    exact ⟨ρ, env, m, _, _, s, h0, fun ρ' H' M E σ' re dd x => ⟨c, fs, ρ', env1, m1, f, m', rfl, ⟨M, re⟩, x, e, p.mono E⟩⟩
  · rename_i hne
    refine ⟨ρ, env, m, f, m', s, e, fun ρ' H' M E => ?_⟩
    have pp := p ρ' H' M E
    cases f with
    | ex c fs env1 => exact absurd e (hne c fs env1 m')
    | _ => exact pp
abbrev HandC := @Hand coldI
section
variable {X : Cx} {pins : List (Addr × Obj)} {σ : L2.St} {H : Hp} {s : Shared} {a : Addr} {cls : Value} {dd : Option Addr}
theorem c_inv (h : HandC X pins a cls dd σ H s) : L2.Inv X pins σ H s := @Hand.inv coldI _ _ _ _ _ _ _ _ h
theorem c_na (h : HandC X pins a cls dd σ H s) : H a = none := by
  obtain ⟨_, q, _, _, _⟩ := h
  exact q
theorem c_mk {B : Heap} {sI : Shared} (I : L2.Inv X pins σ H sI) (nb : ∀ b o, sI.heap.get? b = some o → b ∉ frs X.stack → B.get? b = some o) (up : sI.heap.UpToSlots s.heap) (os : s.os = sI.os) (ag : AllBare s.gens)
    (fl : HandSPX.FlyingZ B (X.env :: X.outer) a (@Zk coldI cls dd) s.heap) (na : H a = none) (hs : X.stack = X.env :: X.outer) (hf : X.env.frame = some X.env.locals) (hex : X.ex = []) : HandC X pins a cls dd σ H s := @Hand.mk coldI _ _ _ _ _ _ _ _ ⟨B, sI, I, nb, up, os, ag, fl⟩ na hs hf hex
theorem c_noFrame (h : HandC X pins a cls dd σ H s) : a ∉ frs (X.env :: X.outer) := @Hand.noFrame coldI _ _ _ _ _ _ _ _ h
theorem c_apart (h : HandC X pins a cls dd σ H s) : X.s_0.heap.get? a = none ∧ a ≠ X.env.locals ∧ (∀ x c, X.env.cells.lookup x = some c → c ≠ a) ∧ ∀ p ∈ X.pn ++ pins, p.1 ≠ a := @Hand.apart coldI _ _ _ _ _ _ _ _ h
theorem c_again {M : Model} {A : Around} {E : Value → Shared → Prop} {Q : Unit → Shared → Prop} (h : HandC X pins a cls dd σ H s) (k : ∀ s', HandC X pins a cls dd σ H s' → Q () s') : wpAny M A (setFlight (.ref a) none) Q E s := @Hand.again coldI _ _ _ _ _ _ _ _ _ _ _ _ h k
end
theorem Hand.warm [Kd] {X : Cx} {pins : List (Addr × Obj)} {σ : L2.St} {H : Hp} {s : Shared} {a : Addr} {cls : Value} {dd : Option Addr} (hot : Kd.hot = true) (h : HandC X pins a cls dd σ H s) : Hand X pins a cls dd σ H s := by
  obtain ⟨⟨B, sI, I, nb, up, os, ag, fl⟩, h2, h3, h4, h5⟩ := h
  exact ⟨⟨B, sI, I, nb, up, os, ag, fl.1, fl.2.1, fl.2.2.1, trace_up (fun o z => ⟨z.1, fun f => by rw [hot] at f; cases f⟩) fl.2.2.2⟩, h2, h3, h4, h5⟩
section
variable [Kd]
inductive HdsR (X : Cx) : List ExceptHandler → List (Str × DS) → Prop
  | nil : HdsR X [] []
  | one {x : Str} {ds : DS} {b₀ : Stmt} {suite : List Stmt} {np pos' : Pos} {hds : List ExceptHandler} {l : List (Str × DS)} (hc : Names X x (.ref (He.ga X.K x)))
      (hsu : ∀ (a : Addr) (oe : Obj) (pn : List (Addr × Obj)), L2H.HotC (L2H.suiteX X a ((a, oe) :: pn)) → SSs (L2H.suiteX X a ((a, oe) :: pn)) (b₀ :: suite) ds) (r : HdsR X hds l) : HdsR X (.ExceptHandler (some (.Name x np)) none (b₀ :: suite) pos' :: hds) ((x, ds) :: l)
theorem Takes.hotter {X : Cx} {W : WX} (t : L2.Takes X W) : Takes X W := ⟨fun u s' x => by
  rcases x with ⟨a, B, sI, pins, σ, H, cls, d, x1, x2, x3, x4, sky, x5⟩
  exact t u s' ⟨a, B, sI, pins, σ, H, cls, d, x1, x2, x3, x4, sky_up (fun o z => z.zc) sky, x5⟩, fun _ => t⟩
theorem handleR {X : Cx} {pins : List (Addr × Obj)} {ex : ExT} {W : WX} {D : Ends} {a : Addr} {dd : Option Addr} {c : Str} {fs : List (Str × Vl)} {σ : L2.St} {H : Hp} {s : Shared} (hot : Kd.hot = true) (hE : ExOk X.K ex) (tk : Takes X W)
    (hpa : ∀ hd : Option Value, PassesOwnAt (model X.prog X.w) (X.A.mark hd) X.A X.env X.xe) (h : HandC X pins a (.ref (He.ga X.K c)) dd σ H s)
    {ρ : Lay} {env : Ev} {m : Mem} (hS : S X.K ρ env m σ H) (hX : XD X.K ρ H dd fs) : ∀ {hds : List ExceptHandler} {l : List (Str × DS)} {f : Fl} {m' : Mem}, HdsR X hds l → hdR ex l c fs env m = some (f, m') → PoS X.K ρ H W D f m' →
      wpAny (model X.prog X.w) X.A (handleBy (.ref a) X.env hds) (SP X pins D) X.xe s := by
  have ok := (c_inv h).ok
  have hw := h.warm hot
  intro hds l f m' hk
  induction hk with
  | nil =>
    intro e p
    cases e
    exact hw.onward tk (p ρ H hS.mem .refl σ hS.env dd hX)
  | @one x ds b₀ suite np pos' hds l hc hsu r ih =>
    intro e p
    unfold hdR at e
    rcases hx : ex c x with _ | b
    · rw [hx] at e
      cases e
    · rw [hx] at e
      refine wpAny_handleBy_cons (codeAny_handlers_test (hw.test (Qb := fun _ _ => True) (b := b) hc ((hw.matches (hE c x b hx)).here ?_))) (by intro q; cases q)
      cases b with
      | false => exact ih e p
      | true =>
        refine codeAny_handlers_suite (c_again h fun s4 h4 => ?_)
        have nfr := c_noFrame h4
        obtain ⟨_, nL, _, _⟩ := c_apart h4
        have I4 := c_inv h4
        have na := c_na h4
        obtain ⟨⟨B, sI, I, nb, up, os, ag, fl⟩, _, hstk, _, _⟩ := h4
        obtain ⟨oe, vs, he, hz, hd⟩ := fl.there
        have nF : a ∉ X.fs := fun hm => by
          rcases List.mem_filterMap.mp hm with ⟨e', he', q⟩
          exact nfr (List.mem_filterMap.mpr ⟨e', List.mem_cons_of_mem _ he', q⟩)
        have IS := L2H.suiteX_of (I4.suite he hd na nL nF)
        have tkS : L2.Takes (L2H.suiteX X a ((a, oe) :: (X.pn ++ pins))) W := fun u2 s2 x2 => by
          rcases x2 with ⟨a2, B2, sI2, pn2, σ2, H2, c2, d2, q1, q2, q3, q4, q5, q6⟩
          exact tk.c hot u2 s2 ⟨a2, B2, sI2, pins, σ2, H2, c2, d2, q1, L2H.unsuiteX q2 ok, q3, q4, q5, q6⟩
        have hc' : L2H.HotC (L2H.suiteX X a ((a, oe) :: (X.pn ++ pins))) := ⟨(a, oe), ⟨rfl, vs, hd, hz.2 rfl vs hd⟩, List.mem_cons_self⟩
        refine wpAny_mono (((hsu a oe (X.pn ++ pins) hc').run W (.hotter tkS)).run [] s4 σ H D IS ⟨ρ, env, m, f, m', hS, e, p⟩) (fun fl6 s6 q => ?_) fun e6 s6 z => hpa (some (.ref a)) e6 s6 z
        exact sp_map (fun _ _ J => L2H.unsuiteX J ok) q
variable {X : Cx} {body : List Stmt} {h₀ : ExceptHandler} {hds : List ExceptHandler} {l : List (Str × DS)} {ex : ExT} {d : DS} {pos : Pos}
theorem ss_tryR (hot : Kd.hot = true) (hs : X.stack = X.env :: X.outer) (hf : X.env.frame = some X.env.locals) (hex : X.ex = []) (hE : ExOk X.K ex) (hpa : ∀ hd : Option Value, PassesOwnAt (model X.prog X.w) (X.A.mark hd) X.A X.env X.xe)
    (hb : ∀ (pn : List (Addr × Obj)) (xe : Value → Shared → Prop), PassesOwn (model X.prog X.w) X.A X.env xe → @SSs coldI (X.tr pn xe) body d)
    (hh : HdsR X (h₀ :: hds) l) : SS X (.Try body (h₀ :: hds) [] [] pos) (dTryR ex d l) := ⟨fun W tk => impPS (t := fun D σ H => rdS X.K (wTryR X.K ex W D l) d D σ H) ⟨fun pins s σ H D I h => wpAny_Try_except (by
  have ok := I.ok
  have hb' := hb (X.pn ++ pins) _ (PassesOwn.looking (E₁ := X.xe) (K := fun e s2 => wpAny (model X.prog X.w) X.A (setFlight e none) (fun _ s3 => wpAny (model X.prog X.w) X.A (handleBy e X.env (h₀ :: hds)) (SP X pins D) X.xe s3) X.xe s2))
  refine wpAny_mono ((@SSs.run coldI _ _ _ hb' (wTryR X.K ex W D l) (@Takes.of coldI _ _ fun u s' xx => ?_)).run [] s σ H D (I.toTry _) h) (fun f s1 q => ?_) fun _ _ he => he
  · obtain ⟨a, B, sI, pins', σ', H', cls, dd, rfl, J, nb, up, sky, na, os, ag, c, fs, ρ, env, m, f, m', rfl, hS, hX, e, p⟩ := xx
    have hfr : X.A.frames = some (X.env :: X.outer) := ok.frames.trans (congrArg some hs)
    refine L2N.Sky.land (@Zk.steady coldI _ _) hfr hf (hs ▸ sky) fun h3 fl up3 => ?_
    exact handleR (s := { s' with heap := h3 }) hot hE tk hpa (c_mk (s := { s' with heap := h3 }) (J.ofTry ok) nb (up.trans up3) os ag fl na hs hf hex) hS hX hh e p
  · have q2 : SP X pins D f s1 := sp_map (fun _ _ J => J.ofTry ok) q
    cases f with
    | next => exact wpAny_execs_nil q2
    | ret u => exact q2
    | brk => exact q2
    | cont => exact q2)⟩ fun D σ H h => rdS_tryR h⟩
end
/-! ### raise C(e) from None, in such a clause -/
theorem Room.mark {k : Nat} {A : Around} (r : Z.Room k A) (h : Option Value) : L2H.RoomH k (A.mark h) := ⟨r.dp, r.un⟩
section
variable [Kd]
variable {X : Cx} {pins : List (Addr × Obj)} {σ : L2.St} {H : Hp} {s : Shared} {C : Addr} {f : Str} {k : Nat}
theorem err_callH (Er : ErrI X.prog X.K C f) (I : L2.Inv X pins σ H s) (hm : X.mg "super" = none) (hr : L2H.RoomH (k + 1) X.A) {y : V} {u : Value} (ry : RelV y u) :
    wpAny (model X.prog X.w) X.A (call (.ref C) [u]) (Made X pins σ H C f y) X.xe s := by
  obtain ⟨mb, hb1, hb2⟩ := I.mod.blt
  obtain ⟨nm, N, qn, bs, bm, hdct, sn, sub, ab, col, dc, k0, k1, k2, k3, k5, hC, hT⟩ := PySem.W.excInit_of I.kIn Er.xin
  have glob := I.mod.glob.keeps I.bk
  have blt := hb1.keeps I.bk
  have nol := I.nolimit
  have kin := I.kIn
  have nx : H (s.heap.objs.size + 1) = none := I.hok.fresh (Nat.le_succ _)
  obtain ⟨hp, g, dr, tk, os⟩ := s
  refine wpAny_call (PySem.HandSPX.call_own Er.base.fb hT hC (PySem.W.looks_findIn kin Er.ini) (fun self => PySem.W.bind_fn kin self Er.tyI) (show 1 ≤ sizeLine by decide) (err_init Er kin glob hm blt hb2 nol (hr.make C [u] []).depth fun h' dx t' hsh tq tk' kp e1 e2 l1 l2 => ⟨rfl, ?_⟩))
  have nd : H dx = none := I.hok.fresh l1
  obtain ⟨G, g1, g2⟩ := restrict h' fun b => decide (b ≠ hp.objs.size + 1)
  have gk : ∀ b, b ≠ hp.objs.size + 1 → G.get? b = h'.get? b := fun b hb => g1 b (decide_eq_true hb)
  have gn : G.get? (hp.objs.size + 1) = none := g2 _ (by simp)
  refine ⟨hp.objs.size + 1, dx, t', ⟨G, g, dr, tk', os⟩, rfl, I.laid (fun b o e => ?_) l1 ⟨_, ns1_one ((gk _ l2).trans e2), fun z => ?_⟩, fun b o e => ?_, gn, e1, nx, nd, l2, rfl, I.bare⟩
  · rw [gk b (fun q => by subst q; exact absurd (Heap.lt_size e) (Nat.not_lt.mpr (Nat.le_succ _)))]
    exact kp b o e
  · by_cases q : z = f
    · subst q
      simp [List.lookup]
      exact ry
    · have q' : (z == f) = false := by simpa using q
      simp [List.lookup, q, q']
      trivial
  · by_cases q : b = hp.objs.size + 1
    · subst q
      rw [gn] at e
      cases e
    · rw [gk b q] at e
      exact e
end
section
variable [Kd]
structure SMk5 (X : Cx) (e : Expr) (d : DM) : Prop where
  run : ∀ W, Takes X W → L2H.PMk5 X e (rdM X.K W d)
variable {X : Cx} {e : Expr} {d : DA} {dm : DM} {c f : Str} {p pos cpos : Pos} {k j : Nat}
theorem sm_err5 (Er : ErrI X.prog X.K (He.ga X.K c) f) (hsup : X.mg "super" = none) (hr : L2H.RoomH (k + 1) X.A) (hm : X.mg c = some (.ref (He.ga X.K c))) (hg : Gl X c) (ha : SA X [e] d) (hdb : (c == ("__debug__" : Str)) = false := by decide)
    (he : starEach (e :: []) X.env = (false, eval e X.env) :: starEach [] X.env := by rfl) : SMk5 X (.Call (.Name c p) [e] [] pos) (dMk c f d) := ⟨fun W tk pins s σ H Q I h => by
  obtain ⟨ρ, env, m, r, m', st, ee, pp⟩ := h
  have h' : rdA X.K W d σ H (fun vs H1 => ∃ ρ1 x y, vs = [y] ∧ RM X.K ρ1 m' H1 ∧ RV X.K ρ1 H1 x y ∧ ∀ ρ' H', RM X.K ρ' m' H' → Ext ρ1 H1 ρ' H' → ∀ dd, XD X.K ρ' H' dd [(f, x)] → Q (.ref (He.ga X.K c)) dd H') := by
    unfold dMk bindR at ee
    split at ee
    · cases ee
    · rename_i xs m1 h0
      dsimp only at ee
      split at ee
      · rename_i x
        cases ee
        refine goA st h0 fun ρ' H' vs s' E rv => ?_
        obtain ⟨y, ys, rfl, r1, r2⟩ := rv
        have r2' : ys = [] := r2
        subst r2'
        exact ⟨ρ', x, y, rfl, s'.mem, r1, fun ρ2 H2 M2 E2 => pp ρ2 H2 M2 (E.trans E2)⟩
      · cases ee
    · rename_i c' fs' m1 h0
      cases ee
      exact exA st h0 fun ρ' H' dd s' E x => pp ρ' H' s'.mem E dd x
  refine wpAny_Call_Name_kw (ld_glob I hg hm ?_ hdb)
  refine PySem.W.callWith_K (h₀ := X.base) I.ok.mod.kin Er.kC (thn ((ha.run W tk).run pos pins s σ H _ I h') fun us s1 ⟨vs, H1, I1, rl, q⟩ => ⟨I1.kIn, ?_⟩) he rfl
  obtain ⟨ρ1, x, y, rfl, M1, rx, k1⟩ := q
  cases rl with
  | cons r1 r2 =>
    cases r2
    refine wpAny_mono (err_callH Er I1 hsup hr r1) (fun u s2 mk => ?_) fun _ _ z => z
    obtain ⟨a, dd, t, sI, rfl, J, kp, na, ea, nh, nd, ne, os, ag⟩ := mk.ex
    have E1 := ext_new (ρ := ρ1) (o := .xd [(f, y)]) nd
    refine ⟨⟨a, _, _, sI, _, .ref (He.ga X.K c), some dd, rfl, J, kp, na, ea, ⟨rfl, rfl, fun vs e => by cases e; rfl⟩, rfl, rfl, by rw [upd_ne (Ne.symm ne)]; exact nh, os, ag, raises_own Er.exC Er.tyC, ?_⟩, fun b oe vs eb hg hd => ?_⟩
    · exact k1 ρ1 _ (M1.laid nd) E1 (some dd) ⟨_, upd_same, M1.fresh nd, y, [], rfl, rx.mono E1, rfl⟩
    · cases eb
      rw [ea] at hg
      cases hg
      cases hd
      show 4 < 6
      decide⟩
theorem sm_errN5 (Er : Nonempty (ErrI X.prog X.K (He.ga X.K c) f)) (hsup : X.mg "super" = none) (hr : L2H.RoomH (k + 1) X.A) (hm : X.mg c = some (.ref (He.ga X.K c))) (hg : Gl X c) (ha : SA X [e] d) (hdb : (c == ("__debug__" : Str)) = false := by decide)
    (he : starEach (e :: []) X.env = (false, eval e X.env) :: starEach [] X.env := by rfl) : SMk5 X (.Call (.Name c p) [e] [] pos) (dMk c f d) := Er.elim fun E => sm_err5 E hsup hr hm hg ha hdb he
theorem ss_raiseR (hot : Kd.hot = true) (hc : L2H.HotC X) (h : SMk5 X e dm) : SS X (.Raise (some e) (some (.Constant .none j cpos)) pos) (dRaise dm) := ⟨fun W tk => impPS (L2H.ps_raiseHN hc (tk.c hot) (h.run W tk)) fun D σ H ⟨ρ, env, m, fl, m', s, ee, p⟩ => by
  unfold dRaise at ee
  split at ee
  · rename_i q m1 h0
    cases ee
    exact ⟨ρ, env, m, _, _, s, h0, fun ρ' H' M E dd x => p ρ' H' M E σ (s.env.mono E) dd x⟩
  · rename_i c' fs m1 h0
    cases ee
    exact ⟨ρ, env, m, _, _, s, h0, fun ρ' H' M E dd x => p ρ' H' M E σ (s.env.mono E) dd x⟩
  · cases ee⟩
end
@[simp] theorem dTryR_ap {ex : ExT} {d : DS} {hs : List (Str × DS)} {env : Ev} {m : Mem} : dTryR ex d hs env m = (match d env m with
  | some (.ex c fs env1, m1) => hdR ex hs c fs env1 m1
  | r => r) := rfl
/-- what holds where nothing else is said -/
instance (priority := low) anyKd : Kd := ⟨true⟩
end Z
namespace Z
open PySem PySem.Spec PyProof.Rows L2
/-! ### str of an int or of a text -/
variable [Kd]
theorem call_or {X : Cx} {f : Value} {r r' : List V → Hp → VK → Prop} (h : CallR X f r) (h' : CallR X f r') : CallR X f (fun xs H Q => r xs H Q ∨ r' xs H Q) := by
  intro pins s σ H xs us Q I v q
  rcases q with q | q
  · exact h pins s σ H xs us Q I v q
  · exact h' pins s σ H xs us Q I v q
def strAF : FB := fun xs m => match xs with
  | [.int i] => if i.natAbs.log2 < 1920 then some (.str (toString i), m) else none
  | [.str a] => some (.str a, m)
  | _ => none
theorem scf_strA {K : PySem.W.Frag} : SCF K strAF (fun xs H Q => (∃ i, xs = [.int i] ∧ i.natAbs.log2 < 1920 ∧ Q (.str (toString i)) H) ∨ ∃ a, xs = [.str a] ∧ Q (.str a) H) := fun ρ m H xs vs z m' Q M a e k => by
  unfold strAF at e
  split at e
  · rename_i i
    split at e
    · rename_i hc
      cases e
      obtain ⟨v, s, rfl, h1, h2⟩ := a
      subst h2
      exact .inl ⟨i, by rw [show v = V.int i from h1], hc, k ρ H _ M .refl rfl⟩
    · cases e
  · rename_i t
    cases e
    obtain ⟨v, s, rfl, h1, h2⟩ := a
    subst h2
    exact .inr ⟨t, by rw [show v = V.str t from h1], k ρ H _ M .refl rfl⟩
  · cases e
section
variable {X : Cx} {p pos : Pos} {e : Expr} {es : List Expr} {d : DA}
theorem se_strA (hg : Gl X "str") (hm : X.mg "str" = none) (ha : SA X (e :: es) d) (he : starEach (e :: es) X.env = (false, eval e X.env) :: starEach es X.env := by rfl) (hpl : (backTo pos (starEach es X.env)).any (·.1) = false := by rfl) :
    SE X (.Call (.Name "str" p) (e :: es) [] pos) (dB strAF d) := se_callTy (call_or call_str_int SkE.call_str_str) scf_strA hg hm (by decide +kernel) ha (by decide) (by decide) he hpl
end
/-! ### a text very many times -/
def mulBC (z : Str) (i : Int) : Bool := decide (0 ≤ i) && (decide (i ≤ 4000) && decide (z.length ≤ 1000))
theorem mulBOk_of {z : Str} {i : Int} (h : mulBC z i = true) : MulOk z i := by
  unfold mulBC at h
  rw [Bool.and_eq_true, Bool.and_eq_true, decide_eq_true_eq, decide_eq_true_eq, decide_eq_true_eq] at h
  obtain ⟨h0, h1, h2⟩ := h
  refine ⟨?_, fun hn _ => ?_, fun hn _ => ?_⟩
  · rw [decide_eq_false (by omega), decide_eq_false (by omega)]
    rfl
  · have hp : 0 < i := by omega
    have : (1000 : Int) ≤ (2 ^ 63 - 1) / i := (Int.le_ediv_iff_mul_le hp).mpr (by omega)
    omega
  · have hm : z.length * i.toNat ≤ 1000 * 4000 := Nat.mul_le_mul h2 (by omega)
    unfold Builtin.Str.tooLong
    exact decide_eq_false (Nat.not_lt.mpr (Nat.le_trans hm (by decide)))
def mulB : F2 := fun x y m => match x, y with
  | .str z, .int i => if mulBC z i = true then some (.str (Txt.mul z i), m) else none
  | _, _ => none
theorem sf_mulB {K : PySem.W.Frag} : SF2 K mulB (fun x y H Q => ∃ z i, x = .str z ∧ y = .int i ∧ MulOk z i ∧ Q (.str (Txt.mul z i)) H) := fun ρ m H x y v u z m' Q M a b e k => by
  unfold mulB at e
  split at e
  · rename_i w i
    split at e
    · rename_i hc
      cases e
      exact ⟨w, i, a, b, mulBOk_of hc, k ρ H _ M .refl rfl⟩
    · cases e
  · cases e
section
variable {X : Cx} {a b : Expr} {pos : Pos} {da db : DE}
theorem se_mulB (ha : SE X a da) (hb : SE X b db) : SE X (.BinOp a .Mult b pos) (d2 mulB da db) := se_2 op_mulS sf_mulB ha hb
end
theorem mulB_str {z : Str} {i : Int} {m : Mem} (h : mulBC z i = true) : mulB (.str z) (.int i) m = some (.str (Txt.mul z i), m) := by
  unfold mulB
  simp only [h, if_true]
end Z
namespace Z
open PySem PySem.Spec PyProof.Rows L2
variable [Kd]
/-! ### == that goes into tuples and meets an own method there; the memory may grow -/
abbrev QM := Vl → Vl → Mem → Option (Bool × Mem)
def AfterQ (X : Cx) (pins : List (Addr × Obj)) (σ : L2.St) (ρ : Lay) (H : Hp) (m' : Mem) (s' : Shared) : Prop := ∃ ρ' H', RM X.K ρ' m' H' ∧ Ext ρ H ρ' H' ∧ Inv X pins σ H' s'
/-- inside a built-in -/
def EM (X : Cx) (k : Nat) (h : QM) : Prop :=
  ∀ (A : Around) (pins : List (Addr × Obj)) (s : Shared) (σ : L2.St) (ρ : Lay) (m : Mem) (H : Hp) (x y : Vl) (a b : V) (u v : Value) (r : Bool) (m' : Mem), Sub X k A → Inv X pins σ H s → RelV a u → RelV b v → RM X.K ρ m H → RV X.K ρ H x a → RV X.K ρ H y b → h x y m = some (r, m') →
    wpAny (model X.prog X.w) A (eqBool u v) (fun q s' => q = r ∧ AfterQ X pins σ ρ H m' s') X.xe s
/-- the rich comparison -/
def RQ (X : Cx) (k : Nat) (h : QM) : Prop :=
  ∀ (A : Around) (pins : List (Addr × Obj)) (s : Shared) (σ : L2.St) (ρ : Lay) (m : Mem) (H : Hp) (x y : Vl) (a b : V) (u v : Value) (r : Bool) (m' : Mem), Sub X k A → Inv X pins σ H s → RelV a u → RelV b v → RM X.K ρ m H → RV X.K ρ H x a → RV X.K ρ H y b → h x y m = some (r, m') →
    wpAny (model X.prog X.w) A (richCompare .Eq u v) (fun q s' => q = .bool r ∧ AfterQ X pins σ ρ H m' s') X.xe s
def orM (h h' : QM) : QM := fun x y m => match h x y m with
  | some r => some r
  | none => h' x y m
theorem em_or {X : Cx} {k : Nat} {h h' : QM} (a : EM X k h) (b : EM X k h') : EM X k (orM h h') := fun A pins s σ ρ m H x y va vb u v r m' sb I ra rb M rx ry e => by
  unfold orM at e
  split at e
  · rename_i q hq
    cases e
    exact a A pins s σ ρ m H x y va vb u v r m' sb I ra rb M rx ry hq
  · exact b A pins s σ ρ m H x y va vb u v r m' sb I ra rb M rx ry e
theorem rq_or {X : Cx} {k : Nat} {h h' : QM} (a : RQ X k h) (b : RQ X k h') : RQ X k (orM h h') := fun A pins s σ ρ m H x y va vb u v r m' sb I ra rb M rx ry e => by
  unfold orM at e
  split at e
  · rename_i q hq
    cases e
    exact a A pins s σ ρ m H x y va vb u v r m' sb I ra rb M rx ry hq
  · exact b A pins s σ ρ m H x y va vb u v r m' sb I ra rb M rx ry e
theorem EM.up {X : Cx} {k n : Nat} {h : QM} (a : EM X k h) (hk : k ≤ n) : EM X n h := fun A pins s σ ρ m H x y va vb u v r m' sb => a A pins s σ ρ m H x y va vb u v r m' ⟨sb.room.mono hk, sb.fr⟩
theorem RQ.up {X : Cx} {k n : Nat} {h : QM} (a : RQ X k h) (hk : k ≤ n) : RQ X n h := fun A pins s σ ρ m H x y va vb u v r m' sb => a A pins s σ ρ m H x y va vb u v r m' ⟨sb.room.mono hk, sb.fr⟩
/-- data -/
def datM : QM := fun x y m => match datQ x y m with
  | some r => some (r, m)
  | none => none
theorem em_dat {X : Cx} {k : Nat} : EM X k datM := fun A pins s σ ρ m H x y a b u v r m' sb I ra rb M rx ry e => by
  unfold datM at e
  split at e
  · rename_i q hq
    cases e
    exact eq_dat A pins s σ ρ m H x y a b u v r ⟨sb.room.mono (Nat.zero_le _), sb.fr⟩ I ra rb M rx ry hq
  · cases e
/-- instances by an own method -/
def ownM (c : Str) (cs : List Str) (ts : List TD) (gz : List Vl → List Vl → List Vl) (g : FD) : QM := fun x y m => match insD m x, tyD m y with
  | some (c', _), some t => if (decide (c' = c) && (ts.contains t && tdOk cs t)) = true then (match g (gz [x, y] []) m with
    | some (.ok (.bl b), m') => some (b, m')
    | _ => none) else none
  | _, _ => none
section
variable {X : Cx} {k : Nat} {c : Str} {cs : List Str} {ts : List TD} {gz : List Vl → List Vl → List Vl} {g : FD} {f : Addr}
theorem rq_own (hI : InsA X.K cs) (O : OwnM X.K c "__eq__" f ts) (F : Fz X.prog X.w X.K X.mg X.base k f 2 [] gz g) : RQ X k (ownM c cs ts gz g) := fun A pins s σ ρ m H x y a b u v r m' sb I ra rb M rx ry e => by
  unfold ownM at e
  split at e
  · rename_i c' fs t hi ht
    split at e
    · rename_i hc
      rw [Bool.and_eq_true, Bool.and_eq_true, decide_eq_true_eq] at hc
      obtain ⟨rfl, hc1, hc2⟩ := hc
      split at e
      · rename_i b0 m0 hg
        cases e
        obtain ⟨p, dx, gs, rfl, h3, h4⟩ := insD_ok M rx hi
        obtain rfl : u = Value.ref p := ra
        refine rc_own (op := .Eq) (EE := fun _ _ _ => False) rfl hI O F sb I h3 rb M rx ry ht hc1 hc2 hg (fun er s' hx => ?_) fun ρ' H' M' E' => ?_
        · exact (cxk_no hx).elim
        · intro z w s' rz rw_ I'
          obtain rfl : z = .bl r := rz
          obtain rfl : w = Value.bool r := rw_
          exact ⟨rfl, ρ', H', M', E', I'⟩
      · cases e
    · cases e
  · cases e
/-- inside a built-in: the method run in a memory of its own -/
def boolQ (gz : List Vl → List Vl → List Vl) (g : FD) : Vl → Vl → Mem → Option Bool := fun x y m => match freshF kNone 30 g (gz [x, y] []) m with
  | some (.ok (.bl b), _) => some b
  | _ => none
theorem fresh_bl {g : FD} {xs : List Vl} {m m' : Mem} {b : Bool} (h : freshF kNone 30 g xs m = some (.ok (.bl b), m')) : m' = m := by
  unfold freshF at h
  split at h
  · cases hg : g xs [] with
    | none => rw [hg] at h; cases h
    | some r =>
      obtain ⟨r, m1⟩ := r
      rw [hg] at h
      cases r with
      | ok x =>
        have h : (if (kNone x).Nodup then (match cnv (kNone x) m.length m1 30 x, cellsK (kNone x) m.length m1 30 with
          | some y, some cs => some (R.ok y, m ++ cs)
          | _, _ => none) else none) = some (R.ok (Vl.bl b), m') := h
        split at h
        · split at h
          · rename_i y cs hy hc
            have hc : some [] = some cs := hc
            cases hc
            cases h
            exact List.append_nil m
          · cases h
        · cases h
      | ex c fs =>
        have h : (match mapP (cnv [] m.length m1 30) fs with
          | some gs => some (R.ex c gs, m)
          | none => none) = some (R.ok (Vl.bl b), m') := h
        split at h
        · cases h
        · cases h
  · cases h
def ofQ (h : Vl → Vl → Mem → Option Bool) : QM := fun x y m => match h x y m with
  | some b => some (b, m)
  | none => none
theorem em_of {h : Vl → Vl → Mem → Option Bool} (a : EQ X k h) : EM X k (ofQ h) := fun A pins s σ ρ m H x y va vb u v r m' sb I ra rb M rx ry e => by
  unfold ofQ at e
  split at e
  · rename_i q hq
    cases e
    exact a A pins s σ ρ m H x y va vb u v r sb I ra rb M rx ry hq
  · cases e
def ownI (c : Str) (cs : List Str) (ts : List TD) (gz : List Vl → List Vl → List Vl) (g : FD) : QM := ofQ (ownQ c cs ts (boolQ gz g))
theorem em_own (hI : InsA X.K cs) (O : OwnM X.K c "__eq__" f ts) (F : Fz X.prog X.w X.K X.mg X.base k f 2 [] gz g) : EM X k (ownI c cs ts gz g) := em_of (eq_own hI O (F.fresh kNone 30) fun x y m b h => by
  unfold boolQ at h
  split at h
  · rename_i b' m1 hh
    cases h
    rw [hh, fresh_bl hh]
  · cases h)
end
section
variable {X : Cx} {k : Nat} {h : QM}
/-- item by item, all equal -/
def allM (h : QM) : List Vl → List Vl → Mem → Option Mem
  | [], [], m => some m
  | x :: xs, y :: ys, m => (match h x y m with
    | some (true, m') => allM h xs ys m'
    | _ => none)
  | _, _, _ => none
def tupM (h : QM) : QM := fun x y m => match x, y with
  | .tup xs, .tup ys => (match allM h xs ys m with
    | some m' => some (true, m')
    | none => none)
  | _, _ => none
theorem allM_len {h : QM} : ∀ {xs ys : List Vl} {m m' : Mem}, allM h xs ys m = some m' → xs.length = ys.length
  | [], [], _, _, _ => rfl
  | x :: xs, y :: ys, m, m', e => by
    unfold allM at e
    split at e
    · rw [List.length_cons, List.length_cons, allM_len e]
    · cases e
  | [], _ :: _, _, _, e => by cases e
  | _ :: _, [], _, _, e => by cases e
theorem rq_tup (hq : EM X k h) : RQ X (k + 1) (tupM h) := fun A pins s σ ρ m H x y a b u v r m' sb I ra rb M rx ry e => by
  unfold tupM at e
  split at e
  · rename_i xs ys
    split at e
    · rename_i m1 ha
      cases e
      obtain ⟨l, vs, rfl, hl, hvs⟩ := rx
      obtain ⟨l2, ws, rfl, hl2, hws⟩ := ry
      obtain rfl : u = Value.ref l := ra
      obtain rfl : v = Value.ref l2 := rb
      obtain ⟨its, r1, e1, z1⟩ := I.tuple hl.sq
      obtain ⟨its2, r2, e2, z2⟩ := I.tuple hl2.sq
      have hlen := allM_len ha
      have hsz : its.toArray.size = its2.toArray.size := by
        rw [List.size_toArray, List.size_toArray, ← r1.length, ← r2.length, ← hvs.length, ← hws.length]
        exact hlen
      refine GQ.rc_tupG hsz sb.room.units0 (fun i s' => ∃ ρ' H' mi, RM X.K ρ' mi H' ∧ Ext ρ H ρ' H' ∧ Inv X pins σ H' s' ∧ allM h (xs.drop i) (ys.drop i) mi = some m') e1 e2 (fun i h1 h2 s' q => ?_) (fun s' q => ?_) ⟨ρ, H, m, M, .refl, I, ha⟩
      · obtain ⟨ρ1, H1, mi, M1, E1, I1, ai⟩ := q
        have i1 : i < xs.length := by rw [hvs.length, r1.length]; simpa using h1
        have i2 : i < ys.length := by omega
        rw [List.drop_eq_getElem_cons i1, List.drop_eq_getElem_cons i2] at ai
        unfold allM at ai
        split at ai
        · rename_i m2 hh
          obtain ⟨w, hw1, hw2⟩ := hvs.get (List.getElem?_eq_getElem i1)
          obtain ⟨w', hw1', hw2'⟩ := hws.get (List.getElem?_eq_getElem i2)
          obtain ⟨u1, hu1, ru1⟩ := r1.get hw1
          obtain ⟨u2, hu2, ru2⟩ := r2.get hw1'
          have g1 : its.toArray[i] = u1 := by
            have h1' : i < its.length := by simpa using h1
            rw [List.getElem?_eq_getElem h1'] at hu1
            simpa using Option.some.inj hu1
          have g2 : its2.toArray[i] = u2 := by
            have h2' : i < its2.length := by simpa using h2
            rw [List.getElem?_eq_getElem h2'] at hu2
            simpa using Option.some.inj hu2
          rw [g1, g2]
          refine wpAny_mono (hq A.in1 pins s' σ ρ1 mi H1 _ _ w w' u1 u2 true m2 sb.in1 I1 ru1 ru2 M1 (hw2.mono E1) (hw2'.mono E1) hh) (fun q s2 h2 => ?_) fun _ _ z => z
          obtain ⟨rfl, ρ2, H2, M2, E2, I2⟩ := h2
          exact ⟨rfl, ρ2, H2, m2, M2, E1.trans E2, I2, ai⟩
        · cases ai
      · obtain ⟨ρ1, H1, mi, M1, E1, I1, ai⟩ := q
        have z1 : xs.drop its.toArray.size = [] := List.drop_eq_nil_of_le (by rw [List.size_toArray, hvs.length, r1.length]; exact Nat.le_refl _)
        have z2 : ys.drop its.toArray.size = [] := List.drop_eq_nil_of_le (by rw [← hlen, List.size_toArray, hvs.length, r1.length]; exact Nat.le_refl _)
        rw [z1, z2] at ai
        cases ai
        exact ⟨rfl, ρ1, H1, M1, E1, I1⟩
    · cases e
  · cases e
def eqM (h : QM) : F2 := fun x y m => match h x y m with
  | some (r, m') => some (.bl r, m')
  | none => none
variable {a b : Expr} {da db : DE} {pos : Pos}
theorem se_eqM (hq : RQ X k h) (hr : Room k X.A) (ha : SE X a da) (hb : SE X b db) (hm : behindInMarks .Eq b = false := by rfl) : SE X (.Compare a [.Eq] [b] pos) (d2 (eqM h) da db) := se_cmp (r := fun v u H Q => ∀ (pins : List (Addr × Obj)) (σ : L2.St) (s : Shared) (uv uu : Value), Inv X pins σ H s → RelV v uv → RelV u uu → wpAny (model X.prog X.w) X.A (compareOp .Eq uv uu) (EP X pins σ Q) X.xe s)
  (fun pins s σ H x y v u Q I rx ry hh => hh pins σ s v u I rx ry) (fun ρ m H x y v u z m' Q M rx ry e k2 pins σ s uv uu I r1 r2 => by
    unfold eqM at e
    split at e
    · rename_i r m1 hh
      cases e
      show wpAny (model X.prog X.w) X.A (richCompare .Eq uv uu) _ X.xe s
      refine wpAny_mono (hq X.A pins s σ ρ m H x y v u uv uu r m' ⟨hr, rfl⟩ I r1 r2 M rx ry hh) (fun q s2 h2 => ?_) fun _ _ z => z
      obtain ⟨rfl, ρ2, H2, M2, E2, I2⟩ := h2
      exact ⟨.bl r, H2, I2, rfl, k2 ρ2 H2 _ M2 E2 rfl⟩
    · cases e) ha hb hm
end
end Z
namespace Z
open PySem PySem.Spec PyProof.Rows L2
variable [Kd]
/-! ### dicts of the module with text keys -/
def lookT (tbl : List (Str × Vl)) (z : Str) : Option Vl := match tbl.find? fun p => decide (p.1 = z) with
  | some p => some p.2
  | none => none
structure KdF (K : PySem.W.Frag) (mg : Str → Option Value) (w : World) (x : Str) (tbl : List (Str × Vl)) : Prop where
  at' : ∃ es n, KDict K w (He.ga K x) es n
  yes : ∀ z y, lookT tbl z = some y → ∃ u v, PySem.W.nsIn K (He.ga K x) z = some (some u) ∧ RelV v u ∧ ∀ ρ H, RV K ρ H y v
  no : ∀ z, lookT tbl z = none → PySem.W.nsIn K (He.ga K x) z = some none
/-- what is looked at: the values; the keys with their hashes are the hook's own part -/
def ckTab (x : Str) (tbl : List (Str × Vl)) (K : PySem.W.Frag) : Bool := tbl.all fun p => match PySem.W.nsIn K (He.ga K x) p.1 with
  | some (some u) => kv K p.2 u
  | _ => false
theorem lookT_mem {tbl : List (Str × Vl)} {z : Str} {y : Vl} (h : lookT tbl z = some y) : (z, y) ∈ tbl := by
  unfold lookT at h
  split at h
  · rename_i p hp
    cases h
    have h1 := List.mem_of_find?_eq_some hp
    have h2 := List.find?_some hp
    have h2 : p.1 = z := of_decide_eq_true h2
    rw [← h2]
    exact h1
  · cases h
theorem lookT_no {tbl : List (Str × Vl)} {z : Str} (h : lookT tbl z = none) : z ∉ tbl.map (·.1) := by
  unfold lookT at h
  split at h
  · cases h
  · rename_i hn
    intro hm
    obtain ⟨p, hp, e⟩ := List.mem_map.mp hm
    have := List.find?_eq_none.mp hn p hp
    exact this (decide_eq_true e)
theorem keys_no {P : Params} {z : Str} : ∀ {l : List DictEntry} {ks : List Str}, l.map He.keyOf = He.keysIn P ks → z ∉ ks → l.find? (fun e => e.key.isStr z) = none ∧ (l.any fun e => e.refKey) = false
  | [], _, _, _ => ⟨rfl, rfl⟩
  | e :: r, [], h, _ => by cases h
  | e :: r, k :: ks, h, hz => by
    have h1 : He.keyOf e :: r.map He.keyOf = some (k, PyData.keyHash P k) :: He.keysIn P ks := h
    injection h1 with h2 h3
    obtain ⟨a, b⟩ := keys_no h3 fun q => hz (List.mem_cons_of_mem _ q)
    have nk : k ≠ z := fun q => hz (by rw [q]; exact List.mem_cons_self)
    have hk : ∃ t, e.key = .str k t := by
      unfold He.keyOf at h2
      split at h2
      · rename_i x t q
        have h4 := Option.some.inj h2
        obtain ⟨h5, h6⟩ := Prod.mk.inj h4
        exact ⟨t, by rw [q, h5]⟩
      · cases h2
    obtain ⟨t, hk⟩ := hk
    have i1 : e.key.isStr z = false := by
      rw [hk]
      show (k == z) = false
      simpa using nk
    have i2 : e.refKey = false := by
      unfold DictEntry.refKey
      rw [hk]
    refine ⟨?_, ?_⟩
    · rw [List.find?_cons, i1]
      exact a
    · rw [List.any_cons, i2, b]
      rfl
/-! the hook with these dicts -/
abbrev TabZ := Str × List Str
abbrev AlZT : Type := AlZ × List (Option (List (Option (Str × Int))))
def obsZT (cks : CkL) (ds : List DZ) (es : List EZ) (ts : List TabZ) (K : PySem.W.Frag) : AlZT := (obsZ cks ds es K, ts.map fun t => He.dicW K (He.ga K t.1))
def valZT (ds : List DZ) (es : List EZ) (ts : List TabZ) (w : World) : AlZT := (valZ ds es, ts.map fun t => some (He.keysIn w.params t.2))
def SaysZT (cks : CkL) (ds : List DZ) (es : List EZ) (ts : List TabZ) (w : World) (K : PySem.W.Frag) : Prop := obsZT cks ds es ts K = valZT ds es ts w
def obsZTG (n : Nat) (cks : CkL) (ds : List DZ) (es : List EZ) (ts : List TabZ) (g : Addr → Option Obj) : AlZT := obsZT cks ds es ts (He.frG g (asZ g n))
def hookZT (n : Nat) (cks : CkL) (ds : List DZ) (es : List EZ) (ts : List TabZ) : PySem.W.Hook where
  α := AlZT
  obs := fun s => obsZTG n cks ds es ts s.heap.get?
  val := fun w => valZT ds es ts w
  says := fun w h => ∃ K : PySem.W.Frag, K.In h ∧ SaysZT cks ds es ts w K
  of := fun _ _ e => ⟨_, He.frG_in, e⟩
  keeps := fun _ _ _ ⟨K, hK, c⟩ k => ⟨K, PySem.W.Frag.In.keeps hK k, c⟩
theorem obsZTG_eq {n : Nat} {cks : CkL} {ds : List DZ} {es : List EZ} {ts : List TabZ} {g : Addr → Option Obj} {s : Shared} (h : ∀ a, g a = s.heap.get? a) : obsZTG n cks ds es ts g = (hookZT n cks ds es ts).obs s := by
  have e : g = s.heap.get? := funext h
  rw [e] <;> rfl
section
variable {cks : CkL} {ds : List DZ} {es : List EZ} {ts : List TabZ} {w : World} {K : PySem.W.Frag}
theorem SaysZT.d (c : SaysZT cks ds es ts w K) : SaysZ cks ds es K := congrArg (fun z : AlZT => z.1) c
theorem SaysZT.tab (c : SaysZT cks ds es ts w K) (i : Nat) {t : TabZ} (h : ts[i]? = some t := by rfl) : He.dicW K (He.ga K t.1) = some (He.keysIn w.params t.2) := by
  have e : ts.map (fun t => He.dicW K (He.ga K t.1)) = ts.map fun t => some (He.keysIn w.params t.2) := congrArg (fun z : AlZT => z.2) c
  have e2 : (ts.map fun t => He.dicW K (He.ga K t.1))[i]? = (ts.map fun t => some (He.keysIn w.params t.2))[i]? := by rw [e]
  rw [List.getElem?_map, List.getElem?_map, h] at e2
  exact Option.some.inj e2
end
theorem dicW_es {K : PySem.W.Frag} {a : Addr} {l : List (Option (Str × Int))} (h : He.dicW K a = some l) : ∃ es n, K.lookup a = some ⟨.type "dict", none, .dict es n, #[]⟩ ∧ es.toList.map He.keyOf = l := by
  unfold He.dicW at h
  cases q : K.lookup a with
  | none =>
    rw [q] at h
    cases h
  | some o =>
    obtain ⟨oc, od, dt, osl⟩ := o
    rw [q] at h
    cases oc with
    | type c =>
      cases od with
      | none =>
        cases dt with
        | dict es n =>
          have h1 : (match decide (c = "dict") && (osl.isEmpty && !(a == sysModules)) with
            | true => some (es.toList.map He.keyOf)
            | false => none) = some l := h
          cases z : decide (c = "dict") && (osl.isEmpty && !(a == sysModules)) with
          | false =>
            rw [z] at h1
            cases h1
          | true =>
            rw [z] at h1
            rw [Bool.and_eq_true, Bool.and_eq_true, decide_eq_true_eq] at z
            obtain ⟨e1, z3, z4⟩ := z
            have e2 : osl = #[] := Array.isEmpty_iff.mp z3
            subst e1 e2
            exact ⟨es, n, rfl, Option.some.inj h1⟩
        | _ => cases h
      | some b => cases dt <;> cases h
    | _ => cases od <;> cases dt <;> cases h
theorem kdf_ok {K : PySem.W.Frag} {mg : Str → Option Value} {w : World} {x : Str} {tbl : List (Str × Vl)} {ks : List Str} (hk : ks = tbl.map (·.1)) (h : He.dicW K (He.ga K x) = some (He.keysIn w.params ks)) (c : ckTab x tbl K = true) : KdF K mg w x tbl := by
  refine ⟨He.dicW_ok h, fun z y hz => ?_, fun z hz => ?_⟩
  · have := List.all_eq_true.mp c _ (lookT_mem hz)
    split at this
    · rename_i u hu
      obtain ⟨v, h1, h2⟩ := kv_ok this
      exact ⟨u, v, hu, h1, h2⟩
    · cases this
  · obtain ⟨es, n, hl, he⟩ := dicW_es h
    obtain ⟨f1, f2⟩ := keys_no (P := w.params) he (by rw [hk]; exact lookT_no hz)
    unfold PySem.W.nsIn
    rw [hl]
    show (match es.toList.find? (·.key.isStr z) with
      | some e => some (some e.val)
      | none => if es.toList.any (·.refKey) then none else some none) = some none
    rw [f1, f2]
    rfl
section
variable {X : Cx} {o e : Expr} {apos cpos pos : Pos} {da db : DE} {x : Str} {tbl : List (Str × Vl)}
/-- d[e] -/
def ixG (x : Str) (tbl : List (Str × Vl)) : F2 := fun v y m => match v, y with
  | .glo x', .str z => if x' = x then (match lookT tbl z with
    | some r => some (r, m)
    | none => none) else none
  | _, _ => none
theorem se_kix (F : KdF X.K X.mg X.w x tbl) (ha : SE X o da) (hb : SE X e db) (hs : PlainIx e := by intro _ _; rfl) : SE X (.Subscript o e pos) (d2 (ixG x tbl) da db) := ⟨fun W tk =>
  impPE (pe_ix ix_kdict (ha.run W tk) (hb.run W tk) hs) fun σ H Q ⟨ρ, env, m, z, m', s, e, p⟩ =>
    bindE s e p fun xv m1 ρ1 H1 v s1 E1 r1 e1 p1 => bindE s1 e1 p1 fun y m2 ρ2 H2 u s2 E2 r2 e2 p2 => by
      obtain ⟨w, h1, rfl⟩ := okR_some e2
      unfold ixG at h1
      split at h1
      · rename_i x' zz
        split at h1
        · rename_i hx
          split at h1
          · rename_i r hr
            cases h1
            subst hx
            obtain ⟨es, n, D⟩ := F.at'
            obtain ⟨u0, v0, q1, q2, q3⟩ := F.yes zz w hr
            exact ⟨_, zz, v0, r1, r2, ⟨es, n, u0, D.at_, D.lit, q1, q2⟩, p2 ρ2 H2 s2.mem .refl v0 (q3 _ _)⟩
          · cases h1
        · cases h1
      · cases h1⟩
/-- d.get(e) -/
def dKGet (x : Str) (tbl : List (Str × Vl)) (da db : DE) : DE := fun env m => bindR (da env m) fun v m => match v with
  | .glo x' => if x' = x then bindR (db env m) fun y m => (match y with
    | .str z => some (.ok ((lookT tbl z).getD .non), m)
    | _ => none) else none
  | _ => none
theorem se_kget (F : KdF X.K X.mg X.w x tbl) (ho : SE X o da) (he : SE X e db) (m0 : M1 X o "get" apos e cpos := by exact ⟨rfl, rfl, rfl, rfl⟩) : SE X (.Call (.Attribute o "get" apos) [e] [] cpos) (dKGet x tbl da db) := ⟨fun W tk => by
  refine ⟨fun pins s σ H Q I h => ?_⟩
  have h' : rdE X.K W da σ H (fun v H1 => v = .ref (He.ga X.K x) ∧ rdE X.K W db σ H1 fun u H2 => ∃ zz, u = .str zz ∧ (∀ w : V, (∃ y, lookT tbl zz = some y ∧ ∀ ρ H, RV X.K ρ H y w) ∨ (lookT tbl zz = none ∧ w = .non) → Q w H2)) := by
    obtain ⟨ρ, env, m, z, m', st, ee, pp⟩ := h
    exact bindE st ee pp fun xv m1 ρ1 H1 v s1 E1 r1 e1 p1 => by
      split at e1
      · rename_i x'
        split at e1
        · rename_i hx
          subst hx
          refine ⟨r1, bindE s1 e1 p1 fun y m2 ρ2 H2 u s2 E2 r2 e2 p2 => ?_⟩
          split at e2
          · rename_i zz
            cases e2
            refine ⟨zz, r2, fun w hw => p2 ρ2 H2 s2.mem .refl w ?_⟩
            rcases hw with ⟨y, hy, hr⟩ | ⟨hn, rfl⟩
            · rw [hy]
              exact hr _ _
            · rw [hn]
              rfl
          · cases e2
        · cases e1
      · cases e1
  obtain ⟨es, n, D⟩ := F.at'
  refine wpAny_Call_method m0.base m0.few m0.line PySem.F.plainAttrs_dict PySem.F.slot_dict_get PySem.F.type_dict_get (thn ((ho.run W tk).run pins s σ H _ I h') fun u s1 ⟨xv, H1, I1, rx, ex, q1⟩ => ?_)
  subst ex
  obtain rfl : u = Value.ref (He.ga X.K x) := rx
  have mo := PySem.W.mapOf_K (prog := X.prog) (w := X.w) I1.kIn D.at_ D.lit
  refine ⟨mo.typeIs, fun b q => ?_, ?_⟩
  · cases q
    exact ⟨_, I1.kIn _ _ D.at_, rfl⟩
  rw [m0.trees]
  refine Calls.callWith_builtin rfl (Calls.evalArgs_plain (Calls.spliced_cons (thn ((he.run W tk).run pins s1 σ H1 _ I1 q1) fun iv s2 ⟨y, H2, I2, ry, zz, ey, q2⟩ => Calls.spliced_nil ?_)))
  subst ey
  obtain ⟨t, rfl⟩ := (show ∃ t, iv = Value.str zz t from ry)
  have mo2 := PySem.W.mapOf_K (prog := X.prog) (w := X.w) I2.kIn D.at_ D.lit
  refine call_meetsIn PySem.F.slot_dict_get mo2.typeIs PySem.F.entry_dict_get (PySem.F.args_dict_get_2 _ _) (meets_dict_get (strKind X.prog X.w) _ (strKind_is X.prog X.w zz t) D.low) ⟨_, mo2, ?_⟩
  cases hz : lookT tbl zz with
  | none =>
    rw [PySem.W.find_K D.at_ (F.no zz hz)]
    exact ⟨.non, H2, I2.tok _, rfl, q2 _ (.inr ⟨hz, rfl⟩)⟩
  | some yv =>
    obtain ⟨u0, v0, e1, e2, e3⟩ := F.yes zz yv hz
    rw [PySem.W.find_K D.at_ e1]
    exact ⟨v0, H2, I2.tok _, e2, q2 _ (.inl ⟨yv, hz, e3⟩)⟩⟩
end
/-! ### name op= e, e.f op= e, sum -/
section
variable {X : Cx} {o e value : Expr} {pos pos' tpos : Pos} {de dv : DE} {i : Nat} {x : Str}
def dAug (i : Nat) (f : F2) (de : DE) : DS := fun env m => match env[i]? with
  | some (some a) => bindS (de env m) env fun b m => (match f a b m with
    | some (c, m) => some (.nx (env.set i (some c)), m)
    | none => none)
  | _ => none
theorem sf_addN {K : PySem.W.Frag} : SF2 K addI (ipI fun i j => i + j) := fun ρ m H x y v u z m' Q M a b e k => by
  obtain ⟨i, j, h1, h2, h3⟩ := sf_addI ρ m H x y v u z m' Q M a b e k
  exact ⟨i, j, h1, h2, h3⟩
theorem ss_aug {op : Operator} {f : F2} {t : TIp} (hN : X.N.Nodup) (hi : X.N[i]? = some x) (hx : Loc X.env.scope x) (he : SE X e de) (ho : PIp X op t) (hf : SF2 X.K f t) (hl : X.fn x = true ∨ X.env.scope.names.lookup x = some .local := by first | exact .inl rfl | exact .inr rfl | assumption) :
    SS X (.AugAssign (.Name x pos') op e pos) (dAug i f de) := ⟨fun W tk =>
  impPS (ps_aug hN hi hx (he.run W tk) ho hl) fun D σ H ⟨ρ, env, m, fl, m', s, e, p⟩ => by
    unfold dAug at e
    split at e
    · rename_i a ha
      obtain ⟨v, h1, h2⟩ := s.env.2 _ _ ha
      refine ⟨v, h1, sbE s e p fun b m1 ρ1 H1 u s1 E1 r1 e1 p1 => ?_⟩
      split at e1
      · rename_i c m2 hc
        cases e1
        exact hf ρ1 m1 H1 a b v u c m' _ s1.mem (h2.mono E1) r1 hc fun ρ2 H2 w M2 E2 r2 => p1 ρ2 H2 M2 E2 _ ((s1.env.mono E2).set r2)
      · cases e1
    · cases e⟩
/-- o.f op= e, o a cell -/
def sFldAugD (cs : List Str) (fn : Str) (f : F2) (de dv : DE) : DS := fun env m => bindS (de env m) env fun xo m => match xo with
  | .obj n => (match m[n]? with
    | some (.ins c fs) => if cs.contains c = true then (match fs.lookup fn with
      | some y0 => bindS (dv env m) env fun y m => (match f y0 y m with
        | some (z, m) => (match m[n]? with
          | some (.ins c' fs') => if (decide (c' = c) && decide (fs'.length < 1000)) = true then some (.nx env, m.set n (.ins c' (putL fn z fs'))) else none
          | _ => none)
        | none => none)
      | none => none) else none
    | _ => none)
  | _ => none
theorem ss_fldaug {op : Operator} {f : F2} {t : V → V → Hp → VK → Prop} {cs : List Str} {fn : Str} (ho : SE X o de) (hv : SE X value dv) (hc : ClsF X.K cs fn) (hop : InOp X op t) (hf : SF2 X.K f t) : SS X (.AugAssign (.Attribute o fn tpos) op value pos) (sFldAugD cs fn f de dv) := ⟨fun W tk =>
  impPS (ps_fldaug (ho.run W tk) (hv.run W tk) hop) fun D σ H ⟨ρ, env, m, fl, m', s, e, p⟩ => sbE s e p fun xo m1 ρ1 H1 v s1 E1 r1 e1 p1 => by
    split at e1
    · rename_i n
      split at e1
      · rename_i c fs hm
        split at e1
        · rename_i hcs
          split at e1
          · rename_i y0 hy0
            obtain ⟨a, rfl, hp⟩ := r1
            obtain ⟨dx, gs, h1, h2⟩ := s1.mem.at_ _ _ _ hm hp
            obtain ⟨v0, h3, h4⟩ := h2.get hy0
            obtain ⟨k1, k2⟩ := hc c (by simpa using hcs)
            refine ⟨a, _, dx, gs, v0, rfl, h1, k1, k2, h3, sbE s1 e1 p1 fun y m2 ρ2 H2 u s2 E2 r2 e2 p2 => ?_⟩
            split at e2
            · rename_i z m3 hz
              split at e2
              · rename_i c' fs' hm'
                split at e2
                · rename_i hcc
                  cases e2
                  rw [Bool.and_eq_true, decide_eq_true_eq, decide_eq_true_eq] at hcc
                  obtain ⟨rfl, hl⟩ := hcc
                  refine hf ρ2 m2 H2 y0 y v0 u z m3 _ s2.mem (h4.mono E2) r2 hz fun ρ3 H3 w M3 E3 r3 => ?_
                  have hp3 : ρ3.c[n]? = some a := by
                    have q1 : RV X.K ρ1 H1 (.obj n) (.ref a) := ⟨a, rfl, hp⟩
                    obtain ⟨a', q2, q3⟩ := (q1.mono E2).mono E3
                    cases q2
                    exact q3
                  obtain ⟨dx', gs', g1, g2⟩ := M3.at_ _ _ _ hm' hp3
                  have hex : Ext ρ3 H3 ρ3 (upd H3 a (.ins (He.ga X.K c') dx' (putF fn w gs'))) := ext_set (List.mem_of_getElem? hp3)
                  exact ⟨dx', gs', g1, by rw [← g2.length]; exact hl, p2 ρ3 _ (M3.put hp3 ⟨dx', _, upd_same, (g2.mono hex).put (r3.mono hex)⟩) (E3.trans hex) σ ((s2.env.mono E3).mono hex)⟩
                · cases e2
              · cases e2
            · cases e2
          · cases e1
        · cases e1
      · cases e1
    · cases e1⟩
theorem sf_addR {K : PySem.W.Frag} : SF2 K addI rAdd := fun ρ m H x y v u z m' Q M a b e k => by
  obtain ⟨i, j, h1, h2, h3⟩ := sf_addI ρ m H x y v u z m' Q M a b e k
  exact ⟨i, j, h1, h2, h3⟩
theorem sf_subR {K : PySem.W.Frag} : SF2 K subI rSub := fun ρ m H x y v u z m' Q M a b e k => by
  obtain ⟨i, j, h1, h2, h3⟩ := sf_subI ρ m H x y v u z m' Q M a b e k
  exact ⟨i, j, h1, h2, h3⟩
/-- sum(xs) of ints -/
def intsL : List Vl → Option (List Int)
  | [] => some []
  | .int b :: xs => (match intsL xs with
    | some bs => some (b :: bs)
    | none => none)
  | _ :: _ => none
theorem intsL_ok {K : PySem.W.Frag} {ρ : Lay} {H : Hp} : ∀ {xs : List Vl} {vs : List V} {bs : List Int}, RVs K ρ H xs vs → intsL xs = some bs → vs = bs.map V.int
  | [], _, _, h, e => by
    cases e
    exact h
  | x :: xs, _, _, ⟨v, r, h1, h2, h3⟩, e => by
    cases x with
    | int b =>
      unfold intsL at e
      split at e
      · rename_i bs hb
        cases e
        rw [h1, intsL_ok h3 hb, show v = V.int b from h2] <;> rfl
      · cases e
    | _ => cases e
@[simp] theorem intsL_map : ∀ l : List Int, intsL (l.map Vl.int) = some l
  | [] => rfl
  | a :: l => by
    rw [List.map_cons]
    unfold intsL
    rw [intsL_map l]
def sumF : FB := fun xs m => match xs with
  | [x] => (match lisD m x with
    | some ys => (match intsL ys with
      | some bs => some (.int bs.sum, m)
      | none => none)
    | none => none)
  | _ => none
theorem scf_sum {K : PySem.W.Frag} : SCF K sumF (rSum K) := fun ρ m H xs vs z m' Q M a e k => by
  unfold sumF at e
  split at e
  · split at e
    · rename_i ys hy
      split at e
      · rename_i bs hb
        cases e
        obtain ⟨v, s, rfl, h1, h2⟩ := a
        subst h2
        obtain ⟨q, ws, rfl, h3, h4⟩ := lisD_ok M h1 hy
        exact ⟨q, bs, rfl, by rw [← intsL_ok h4 hb]; exact h3, k ρ H _ M .refl rfl⟩
      · cases e
    · cases e
  · cases e
theorem se_sum {p : Pos} {es : List Expr} {d : DA} (hc : X.calm = true) (hg : Gl X "sum") (hm : X.mg "sum" = none) (ha : SA X (e :: es) d) (he : starEach (e :: es) X.env = (false, eval e X.env) :: starEach es X.env := by rfl) (hpl : (backTo pos (starEach es X.env)).any (·.1) = false := by rfl) :
    SE X (.Call (.Name "sum" p) (e :: es) [] pos) (dB sumF d) := se_callB (cr_sum hc) scf_sum hg hm (by decide +kernel) ha (by decide) (by decide) he hpl
end
/-! ### an empty tuple as a keyword's default -/
def kdA (f : PySem.W.Frag → Addr) (x : Str) (K : PySem.W.Frag) : Addr := match K.lookup (f K) with
  | some ⟨_, _, .func fd, _⟩ => (match fd.kwdefaults with
    | .ref D => (match PySem.W.nsIn K D x with
      | some (some (.ref a)) => a
      | _ => 0)
    | _ => 0)
  | _ => 0
def T0 (K : PySem.W.Frag) (p : PySem.W.Frag → Addr) : Prop := ∀ ρ H, RV K ρ H (.tup []) (.ref (p K))
def ckT0 (p : PySem.W.Frag → Addr) (K : PySem.W.Frag) : Bool := match K.lookup (p K) with
  | some ⟨.type c, _, .seq its _, _⟩ => decide (c = "tuple") && its.isEmpty
  | _ => false
theorem ckT0_ok {p : PySem.W.Frag → Addr} {K : PySem.W.Frag} (c : ckT0 p K = true) : T0 K p := by
  unfold ckT0 at c
  split at c
  · rename_i cl dd its n sl h
    rw [Bool.and_eq_true, decide_eq_true_eq] at c
    obtain ⟨rfl, c2⟩ := c
    have e : its = #[] := Array.isEmpty_iff.mp c2
    subst e
    exact fun ρ H => ⟨_, [], rfl, .inr ⟨_, #[], n, h, rfl, rfl, Nat.zero_le _, .nil⟩, rfl⟩
  · cases c
/-! ### d[k] op= e, a dict with number or text keys -/
section
variable {X : Cx} {o i value : Expr} {pos tpos : Pos} {do' dk dv : DE}
def dDAug (f : F2) (do' dk dv : DE) : DS := fun env m => bindS (do' env m) env fun x m => bindS (dk env m) env fun y m => match x, keyD y with
  | .obj n, some k => (match m[n]? with
    | some (.dic ks) => (match lookZ ks k with
      | some v0 => bindS (dv env m) env fun w m => (match f v0 w m with
        | some (z, m) => (match m[n]? with
          | some (.dic ks') => if ks'.length < sizeLine then some (.nx env, m.set n (.dic (putZ ks' k z))) else none
          | _ => none)
        | none => none)
      | none => none)
    | _ => none)
  | _, _ => none
theorem ss_daug {op : Operator} {f : F2} {t : V → V → Hp → VK → Prop} (hu : X.A.units + 1 < cLine) (ho : SE X o do') (hi : SE X i dk) (hv : SE X value dv) (hop : InOp X op t) (hf : SF2 X.K f t)
    (ha : ∀ ov iv new, augStore i ov iv new = (do holding [new, ov, iv] (setItem ov iv new); release [new, ov, iv] []; pure .next) := by intros; rfl) : SS X (.AugAssign (.Subscript o i tpos) op value pos) (dDAug f do' dk dv) := ⟨fun W tk =>
  impPS (ps_daug hu (ho.run W tk) (hi.run W tk) (hv.run W tk) hop ha) fun D σ H ⟨ρ, env, m, fl, m', s, e, p⟩ => sbE s e p fun x m1 ρ1 H1 v s1 E1 r1 e1 p1 => sbE s1 e1 p1 fun y m2 ρ2 H2 u s2 E2 r2 e2 p2 => by
    split at e2
    · rename_i n k hk
      split at e2
      · rename_i ks hn
        split at e2
        · rename_i v0 hv0
          obtain ⟨q, rfl, hq⟩ := r1.mono E2
          obtain ⟨vs, h1, h2⟩ := s2.mem.at_ _ _ _ hn hq
          rcases rks_val k h2 with ⟨h5, _⟩ | ⟨x', v', h5, h6, h7⟩
          · rw [hv0] at h5
            cases h5
          · rw [hv0] at h5
            cases h5
            refine ⟨q, v', rfl, .inl ⟨vs, k, .inl h1, keyD_ok hk r2, h6.symm⟩, sbE s2 e2 p2 fun w m3 ρ3 H3 u3 s3 E3 r3 e3 p3 => ?_⟩
            split at e3
            · rename_i z m4 hz
              split at e3
              · rename_i ks' hn'
                split at e3
                · rename_i hl
                  cases e3
                  refine hf ρ3 m3 H3 _ w _ u3 z m4 _ s3.mem (h7.mono E3) r3 hz fun ρ4 H4 w4 M4 E4 r4 => ?_
                  have q1 : RV X.K ρ2 H2 (.obj n) (.ref q) := ⟨q, rfl, hq⟩
                  obtain ⟨a', q2, hq4⟩ := (q1.mono E3).mono E4
                  cases q2
                  obtain ⟨vs', g1, g2⟩ := M4.at_ _ _ _ hn' hq4
                  have E5 : Ext ρ4 H4 ρ4 (upd H4 q (.dK (putK vs' k w4))) := ext_set (List.mem_of_getElem? hq4)
                  have M5 := M4.put (o := .dK (putK vs' k w4)) (c := .dic (putZ ks' k z)) hq4 ⟨_, upd_same, rks_put k (RKs.mono E5 ks' g2) (r4.mono E5)⟩
                  exact ⟨_, .inl ⟨vs', k, g1, keyD_ok hk r2, by rw [← rks_len g2]; exact hl, rfl⟩, p3 ρ4 _ M5 (E4.trans E5) σ ((s3.env.mono E4).mono E5)⟩
                · cases e3
              · cases e3
            · cases e3
        · cases e2
      · cases e2
    · cases e2⟩
end
end Z
namespace Z
open PySem PySem.Spec PyProof.Rows L2
variable [Kd]
/-! ### enumerate of a text, zip of a text and a tuple -/
theorem strIter_at {h h' : Heap} {a : Addr} {ty : String} {x : Str} {t : Tok} {i : Nat} (y : h.IsStrIter a ty x t i) (k : ∀ o, h.get? a = some o → h'.get? a = some o) : h'.IsStrIter a ty x t i :=
  let ⟨o, ho, r⟩ := y
  ⟨o, k o ho, r⟩
theorem strIter_lt {h : Heap} {a : Addr} {ty : String} {x : Str} {t : Tok} {i : Nat} (y : h.IsStrIter a ty x t i) : a < h.objs.size :=
  let ⟨_, ho, _⟩ := y
  Heap.lt_size ho
def IteS (x : Str) : It :=
  ⟨fun i H => ∃ c : Nat, x.cps[i]? = some c,
    fun i H v H' => ∃ (T : Addr) (c : Nat), v = .ref T ∧ H T = none ∧ H' = upd H T (.tup [.int (i : Nat), .str ⟨#[c]⟩]) ∧ x.cps[i]? = some c,
    fun i H => x.cps.size ≤ i⟩
theorem turn_enumS {P : Program} {w : World} {K : PySem.W.Frag} {elts : List Expr} {kk : Nat} {tpos : Pos} (x : Str) (t : Tok) (e it : Addr) :
    Turn P w K (.Tuple elts kk tpos) (IteS x) [e, it] e (fun i h => (∃ old, IsEnum h e it ((i : Nat) : Int) old) ∧ h.IsStrIter it (strIterType x) x t i ∧ e ≠ it ∧ i ≤ x.cps.size) where
  mem := by simp
  obj := fun i h st b hb => by
    obtain ⟨⟨old, he⟩, ⟨o, ho, _, hd⟩, _⟩ := st
    rcases (show b = e ∨ b = it by simpa using hb) with z | z
    · rw [z]
      exact ⟨_, he, fun v q => nomatch q⟩
    · rw [z]
      exact ⟨o, ho, fun v q => by rw [hd] at q; cases q⟩
  keep := fun i h h' st k => by
    obtain ⟨⟨old, he⟩, hi, hne⟩ := st
    exact ⟨⟨old, k e (by simp) _ he⟩, strIter_at hi fun o q => k it (by simp) o q, hne⟩
  item := by
    intro X hP hw hK hc i pins s σ H E I hf st hg
    subst hP hw hK
    obtain ⟨⟨old, he⟩, hit, hne, hle⟩ := st
    obtain ⟨c, hx⟩ := hg
    have hel : e < s.heap.objs.size := Heap.lt_size he
    have hil : it < s.heap.objs.size := strIter_lt hit
    have hh : X.A.in1.handled = none := I.ok.hd hc
    have hlt : i < x.cps.size := (Array.getElem?_eq_some_iff.mp hx).1
    refine wpAny_pyNext_enum_itemD (Draws.text hh it x t) he hit hlt hne (by simp [hne]) fun y h' tk hy ho hs' hT hsz hk => ?_
    obtain ⟨c', u, hc', rfl⟩ := hy
    rw [hx] at hc'
    cases hc'
    refine ⟨_, rfl, wpAny_letOwnedTupleGo_enum (s := { s with heap := h', toks := tk + 1 }) ho fun h'' he' sb => ?_⟩
    have hT2 : h''.get? s.heap.objs.size = some { cls := .type "tuple", data := .seq #[.int i tk, .str ⟨#[c]⟩ u] } := (sb.2 _ (Nat.ne_of_gt hel)).trans hT
    have new : ObjOk X.prog X.w (upd H s.heap.objs.size (.tup [.int (i : Nat), .str ⟨#[c]⟩])) h'' s.heap.objs.size (.tup [.int (i : Nat), .str ⟨#[c]⟩]) :=
      ⟨by show 2 ≤ sizeLine; decide, [.int i tk, .str ⟨#[c]⟩ u], .cons ⟨_, rfl⟩ (.cons ⟨_, rfl⟩ .nil), ⟨_, hT2, rfl, _, rfl⟩⟩
    have I1 : Inv X pins σ (upd H s.heap.objs.size (.tup [.int (i : Nat), .str ⟨#[c]⟩])) { s with heap := h'', toks := tk + 1 } :=
      I.turnedNew (ch := [e, it]) (fun b ob hb q => (sb.2 b (fun z => hb (by simp [z]))).trans (hk b ob (fun z => hb (by simp [z])) (fun z => hb (by simp [z])) q)) hf (Nat.le_refl _) new
    refine ⟨.ref s.heap.objs.size, _, I1, rfl, ⟨_, c, rfl, I.hok.fresh (Nat.le_refl _), rfl, hx⟩, ⟨⟨.str ⟨#[c]⟩ u, ?_⟩, strIter_at hs' fun o q => (sb.2 it (Ne.symm hne)).trans q, hne, hlt⟩, fun b hb => ?_⟩
    · have e1 : ((i + 1 : Nat) : Int) = (i : Int) + 1 := by omega
      rw [e1]
      exact he'
    · have hb' : b < s.heap.objs.size := by
        rcases (show b = e ∨ b = it by simpa using hb) with z | z
        · rw [z]
          exact hel
        · rw [z]
          exact hil
      rw [upd_ne (Nat.ne_of_lt hb')]
      exact (hf b hb).1
  done := by
    intro X hP hw hK hc i pins s σ H E I hf st hg
    subst hP hw hK
    obtain ⟨⟨old, he⟩, hit, hne, hle⟩ := st
    have hi : i = x.cps.size := Nat.le_antisymm hle hg
    obtain ⟨f0, f1, f2, f3, f4, f5⟩ := hf it (by simp)
    have hh : X.A.in1.handled = none := I.ok.hd hc
    refine wpAny_pyNext_enum_endD (Draws.text hh it x t) he (by rw [← hi]; exact hit) fun h' eb => ⟨rfl, I.turned (t' := s.toks) (fun b o hb q => eb b o hb q) f0 f1 f3 f4 f5⟩
  self := fun A i s Q E st h => let ⟨⟨_, he⟩, _⟩ := st; wpAny_pyIter_enum he h
section
variable {X : Cx} {e e2 : Expr} {p pos tpos : Pos} {elts : List Expr} {kk : Nat}
def iEnumS (ta : TA) : TI := fun σ H R => ta σ H fun vs H1 => ∃ x, vs = [.str x] ∧ R (IteS x) H1
theorem pi_enumS {ta : TA} (hg : Gl X "enumerate") (hm : X.mg "enumerate" = none) (ha : PA X [e] ta) (hs : starEach [e] X.env = [(false, eval e X.env)] := by rfl) :
    PI X (.Tuple elts kk tpos) (.Call (.Name "enumerate" p) [e] [] pos) (iEnumS ta) := by
  refine ⟨fun pins s σ H R I h => ?_⟩
  refine Call_ (ld_blt I hg hm boot_enumerate (PyProof.Rows.callWith_type1 (thn (ha.run pos pins s σ H _ I h) fun us s1 ⟨vs, H1, I1, r1, q1⟩ => ?_) hs rfl))
  obtain ⟨x, ex, q⟩ := q1
  subst ex
  cases r1 with
  | cons r rr =>
    cases rr
    obtain ⟨t, rfl⟩ := r
    refine call_enumerate_str fun h' he hit hsz hk => wpAny_pyIter_enum he ?_
    have I2 : Inv X pins σ H1 { s1 with heap := h' } := I1.kept (t' := s1.toks) hk
    refine ⟨s1.heap.objs.size + 1, [s1.heap.objs.size + 1, s1.heap.objs.size], _, _, H1, rfl, I2, turn_enumS x t (s1.heap.objs.size + 1) s1.heap.objs.size, ⟨⟨.none, he⟩, hit, Nat.succ_ne_self _, Nat.zero_le _⟩, fun b hb => ?_, q⟩
    have hle : s1.heap.objs.size ≤ b := by
      rcases (show b = s1.heap.objs.size + 1 ∨ b = s1.heap.objs.size by simpa using hb) with z | z
      · rw [z]
        exact Nat.le_add_right _ _
      · rw [z]
        exact Nat.le_refl _
    exact I1.fpOk hle (I1.hok.fresh hle)
theorem chrs_get {x : Str} {i : Nat} {y : Vl} (h : (chrs x)[i]? = some y) : ∃ c : Nat, x.cps[i]? = some c ∧ y = .str ⟨#[c]⟩ := by
  unfold chrs at h
  rw [List.getElem?_map] at h
  cases q : x.cps.toList[i]? with
  | none => rw [q] at h; cases h
  | some c =>
    rw [q] at h
    cases h
    exact ⟨c, by simpa using q, rfl⟩
theorem chrs_len {x : Str} : (chrs x).length = x.cps.size := by
  unfold chrs
  simp
theorem itOk_enumS {K : PySem.W.Frag} {ρ0 : Lay} {H0 : Hp} {x : Str} : ItOk K (IteS x) ρ0 H0 (enumZ (chrs x)) := fun i ρ m H E M => by
  refine ⟨fun y hy => ?_, fun hl => by rw [enumZ_len, chrs_len] at hl; exact hl⟩
  obtain ⟨z, hz, rfl⟩ := enumZ_get hy
  obtain ⟨c, hc, rfl⟩ := chrs_get hz
  refine ⟨⟨c, hc⟩, fun w H' q => ?_⟩
  obtain ⟨T, u, rfl, hT, rfl, q2⟩ := q
  rw [hc] at q2
  cases q2
  exact ⟨M.laid hT, ext_new hT, new_tup M hT ⟨_, _, rfl, rfl, _, _, rfl, rfl, rfl⟩⟩
def iEnmS (d : DA) : DA := fun env m => bindR (d env m) fun xs m => match xs with
  | [.str x] => some (.ok (enumZ (chrs x)), m)
  | _ => none
theorem si_enumS {d : DA} (hg : Gl X "enumerate") (hm : X.mg "enumerate" = none) (ha : SA X [e] d) (hs : starEach [e] X.env = [(false, eval e X.env)] := by rfl) :
    SI X (.Tuple elts kk tpos) (.Call (.Name "enumerate" p) [e] [] pos) (iEnmS d) := ⟨fun W tk => impPI (pi_enumS hg hm (ha.run W tk) hs) fun σ H R h =>
  rdI_A (Q := fun vs H1 => ∃ x, vs = [.str x] ∧ R (IteS x) H1) h (fun x m1 ρ env xs v H1 s r e k => by
    split at e
    · rename_i y
      cases e
      obtain ⟨w, vs, rfl, r1, r2⟩ := r
      subst r2
      exact ⟨y, by rw [show w = V.str y from r1], k _ itOk_enumS⟩
    · cases e) fun x m r m' e => by
    split at e
    · cases e
      exact ⟨⟨_, rfl⟩, rfl⟩
    · cases e⟩
@[simp] theorem iEnmS_ap {d : DA} {env : Ev} {m : Mem} : iEnmS d env m = bindR (d env m) fun xs m => match xs with
  | [.str x] => some (.ok (enumZ (chrs x)), m)
  | _ => none := rfl
end
/-! zip(text, tuple) -/
def ItzS (K : PySem.W.Frag) (x : Str) (b : Addr) (n2 : Nat) : It :=
  ⟨fun i H => ∃ (ys : List V) (c : Nat) (y : V), SqT K H b ys ∧ ys.length = n2 ∧ x.cps[i]? = some c ∧ ys[i]? = some y,
    fun i H v H' => ∃ (T : Addr) (c : Nat) (y : V), v = .ref T ∧ H T = none ∧ H' = upd H T (.tup [.str ⟨#[c]⟩, y]) ∧ x.cps[i]? = some c ∧ ∀ ys, SqT K H b ys → ys[i]? = some y,
    fun i H => ∃ ys : List V, SqT K H b ys ∧ ys.length = n2 ∧ (x.cps.size ≤ i ∨ n2 ≤ i)⟩
theorem turn_zipS {P : Program} {w : World} {K : PySem.W.Frag} {elts : List Expr} {kk : Nat} {tpos : Pos} {x : Str} {t : Tok} {b z TI TO i1 i2 : Addr} {n2 : Nat} (S : ZipSep2 z TI TO i1 i2 [i1] [i2, b]) :
    Turn P w K (.Tuple elts kk tpos) (ItzS K x b n2) [z, TI, TO, i1, i2] z (fun i h => IsZip h z TI TO .none ∧ IsTupOf2 h TI (.ref i1) (.ref i2) ∧ (∃ x y, IsTupOf2 h TO x y) ∧ h.IsStrIter i1 (strIterType x) x t i ∧ h.IsTupleIter i2 b i ∧ i ≤ x.cps.size ∧ i ≤ n2) where
  mem := by simp
  obj := fun i h st c hc => by
    obtain ⟨hz, hTI, ⟨x, y, hTO⟩, ⟨o1, e1, _, d1⟩, ⟨o2, e2, _, d2⟩, _⟩ := st
    have e' : c = z ∨ c = TI ∨ c = TO ∨ c = i1 ∨ c = i2 := by simpa using hc
    rcases e' with q | q | q | q | q
    · rw [q]; exact ⟨_, hz, fun v q => nomatch q⟩
    · rw [q]; exact ⟨_, hTI, fun v q => nomatch q⟩
    · rw [q]; exact ⟨_, hTO, fun v q => nomatch q⟩
    · rw [q]; exact ⟨o1, e1, fun v q => by rw [d1] at q; cases q⟩
    · rw [q]; exact ⟨o2, e2, fun v q => by rw [d2] at q; cases q⟩
  keep := fun i h h' st k => by
    obtain ⟨hz, hTI, ⟨x, y, hTO⟩, h1, h2, hn⟩ := st
    exact ⟨k z (by simp) _ hz, k TI (by simp) _ hTI, ⟨x, y, k TO (by simp) _ hTO⟩, strIter_at h1 fun o q => k i1 (by simp) o q, h2.at fun o q => k i2 (by simp) o q, hn⟩
  item := by
    intro X hP hw hK hc i pins s σ H E I hf st hg
    subst hP hw hK
    obtain ⟨hz, hTI, ⟨x0, y0, hTO⟩, h1, h2, hle1, hle2⟩ := st
    obtain ⟨ys, c, y, hqy, hyl, hx, hy⟩ := hg
    obtain ⟨its2, rv2, p2, _⟩ := I.tuple hqy
    obtain ⟨u2, hu2, ru2⟩ := rv2.get hy
    have hzl : z < s.heap.objs.size := Heap.lt_size hz
    have hh : X.A.in1.handled = none := I.ok.hd hc
    have hlt1 : i < x.cps.size := (Array.getElem?_eq_some_iff.mp hx).1
    have hlt2 : i < its2.toArray.size := by
      rw [List.size_toArray, ← rv2.length]
      exact getlt hy
    have hbi : b ≠ i2 := fun e => by
      obtain ⟨o2, e2, c2, d2⟩ := h2
      obtain ⟨o3, e3, c3, _⟩ := p2
      rw [e, e2] at e3
      cases e3
      rw [c2] at c3
      injection c3 with c3
      exact absurd c3 (by decide)
    refine wpAny_pyNext_zipD2_item S (Draws.text hh i1 x t) (Draws.tuple hh i2 b hbi its2.toArray) hz hTI hTO h1 ⟨h2, p2⟩ hlt1 hlt2 fun x1 x2 h' tk hx1 hx2 z' TO' h1' h2' hT hsz hk => ?_
    obtain ⟨c', u, hc', rfl⟩ := hx1
    rw [hx] at hc'
    cases hc'
    obtain rfl : x2 = u2 := by
      have e1 : its2.toArray[i]? = some u2 := by simpa using hu2
      rw [e1] at hx2
      cases hx2
      rfl
    refine ⟨_, rfl, wpAny_letOwnedTupleGo_zip (s := { s with heap := h', toks := tk }) z' fun h'' z'' sb => ?_⟩
    have hT2 : h''.get? s.heap.objs.size = some { cls := .type "tuple", data := .seq #[.str ⟨#[c]⟩ u, x2] } := (sb.2 _ (Nat.ne_of_gt hzl)).trans hT
    have new : ObjOk X.prog X.w (upd H s.heap.objs.size (.tup [.str ⟨#[c]⟩, y])) h'' s.heap.objs.size (.tup [.str ⟨#[c]⟩, y]) :=
      ⟨by show 2 ≤ sizeLine; decide, [.str ⟨#[c]⟩ u, x2], .cons ⟨_, rfl⟩ (.cons ru2 .nil), ⟨_, hT2, rfl, _, rfl⟩⟩
    have I1 : Inv X pins σ (upd H s.heap.objs.size (.tup [.str ⟨#[c]⟩, y])) { s with heap := h'', toks := tk } :=
      I.turnedNew (ch := [z, TI, TO, i1, i2]) (fun c o hb q => (sb.2 c (fun q' => hb (by simp [q']))).trans (hk c o (fun q' => hb (by simp [q'])) (fun q' => hb (by simp [q'])) (fun q' => hb (by simp [q'])) (fun q' => hb (by simp [q'])) q)) hf (Nat.le_refl _) new
    refine ⟨.ref s.heap.objs.size, _, I1, rfl, ⟨_, c, y, rfl, I.hok.fresh (Nat.le_refl _), rfl, hx, fun l hl => by rw [I.tuple_inj hl hqy]; exact hy⟩, ⟨z'', ?_, ⟨.str ⟨#[c]⟩ u, x2, ?_⟩, ?_, ?_, hlt1, ?_⟩, fun c hcm => ?_⟩
    · exact (sb.2 _ S.TIz).trans (hk _ _ S.TIz S.TITO S.TIi1 S.TIi2 hTI)
    · exact (sb.2 _ S.TOz).trans TO'
    · exact strIter_at h1' fun o q => (sb.2 _ (Ne.symm S.zi1)).trans q
    · exact h2'.1.at fun o q => (sb.2 _ (Ne.symm S.zi2)).trans q
    · rw [← hyl]
      exact getlt hy
    · have hlt : c < s.heap.objs.size := by
        have e' : c = z ∨ c = TI ∨ c = TO ∨ c = i1 ∨ c = i2 := by simpa using hcm
        rcases e' with q | q | q | q | q
        · rw [q]; exact hzl
        · rw [q]; exact Heap.lt_size hTI
        · rw [q]; exact Heap.lt_size hTO
        · rw [q]; exact strIter_lt h1
        · rw [q]; obtain ⟨_, e2, _⟩ := h2; exact Heap.lt_size e2
      rw [upd_ne (Nat.ne_of_lt hlt)]
      exact (hf c hcm).1
  done := by
    intro X hP hw hK hc i pins s σ H E I hf st hg
    subst hP hw hK
    obtain ⟨hz, hTI, ⟨x0, y0, hTO⟩, h1, h2, hle1, hle2⟩ := st
    obtain ⟨ys, hqy, hyl, hend⟩ := hg
    obtain ⟨its2, rv2, p2, _⟩ := I.tuple hqy
    have hh : X.A.in1.handled = none := I.ok.hd hc
    have l2 : its2.toArray.size = n2 := by rw [List.size_toArray, ← rv2.length, hyl]
    have hbi : b ≠ i2 := fun e => by
      obtain ⟨o2, e2, c2, d2⟩ := h2
      obtain ⟨o3, e3, c3, _⟩ := p2
      rw [e, e2] at e3
      cases e3
      rw [c2] at c3
      injection c3 with c3
      exact absurd c3 (by decide)
    refine wpAny_pyNext_zipD2_end S (Draws.text hh i1 x t) (Draws.tuple hh i2 b hbi its2.toArray) hz hTI hTO h1 ⟨h2, p2⟩ hle1 (by rw [l2]; exact hle2) (by rw [l2]; omega) fun h' tk hk => ⟨rfl, I.turnedL (t' := tk) (ch := [z, TI, TO, i1, i2]) (fun c o hb q =>
      hk c o (fun q' => hb (by simp [q'])) (fun q' => hb (by simp [q'])) (fun q' => hb (by simp [q'])) (fun q' => hb (by simp [q'])) q) hf⟩
  self := fun A i s Q E st h => wpAny_pyIter_zip st.1 h
section
variable {X : Cx} {e e2 : Expr} {p pos tpos : Pos} {elts : List Expr} {kk : Nat}
def iZipS (K : PySem.W.Frag) (ta : TA) : TI := fun σ H R => ta σ H fun vs H1 => ∃ x b ys, vs = [.str x, .ref b] ∧ SqT K H1 b ys ∧ R (ItzS K x b ys.length) H1
theorem pi_zipS {ta : TA} (hg : Gl X "zip") (hm : X.mg "zip" = none) (ha : PA X [e, e2] ta)
    (hs : starEach [e, e2] X.env = (false, eval e X.env) :: starEach [e2] X.env := by rfl) (hpl : (backTo pos (starEach [e2] X.env)).any (·.1) = false := by rfl) :
    PI X (.Tuple elts kk tpos) (.Call (.Name "zip" p) [e, e2] [] pos) (iZipS X.K ta) := by
  refine ⟨fun pins s σ H R I h => ?_⟩
  refine Call_ (ld_blt I hg hm PyProof.Rows.boot_zip (PyProof.Rows.callWith_type1 (thn (ha.run pos pins s σ H _ I h) fun us s1 ⟨vs, H1, I1, r1, q1⟩ => ?_) hs hpl))
  obtain ⟨x, b, ys, ex, hqy, q⟩ := q1
  subst ex
  cases r1 with
  | cons r rr =>
    cases rr with
    | cons r' rr =>
      cases rr
      obtain ⟨t, rfl⟩ := r
      cases r'
      obtain ⟨its2, rv2, p2, _⟩ := I1.tuple hqy
      obtain ⟨o2, ho2, _⟩ := id p2
      have hbl : b < s1.heap.objs.size := Heap.lt_size ho2
      have fresh5 : ∀ c, c ∈ [s1.heap.objs.size + 4, s1.heap.objs.size + 2, s1.heap.objs.size + 3, s1.heap.objs.size, s1.heap.objs.size + 1] → FpOk X pins H1 c := fun c hcm => by
        have e' : c = s1.heap.objs.size + 4 ∨ c = s1.heap.objs.size + 2 ∨ c = s1.heap.objs.size + 3 ∨ c = s1.heap.objs.size ∨ c = s1.heap.objs.size + 1 := by simpa using hcm
        have hle : s1.heap.objs.size ≤ c := by
          rcases e' with z | z | z | z | z
          · rw [z]; exact Nat.le_add_right _ _
          · rw [z]; exact Nat.le_add_right _ _
          · rw [z]; exact Nat.le_add_right _ _
          · rw [z]; exact Nat.le_refl _
          · rw [z]; exact Nat.le_add_right _ _
        exact I1.fpOk hle (I1.hok.fresh hle)
      refine zip_begins2 (begins_text x t) (begins_tuple b its2.toArray) trivial p2 fun h' hz hTI hTO h1 h2 hsz hk => wpAny_pyIter_zip hz ?_
      have I2 : Inv X pins σ H1 { s1 with heap := h' } := I1.kept (t' := s1.toks) hk
      exact ⟨s1.heap.objs.size + 4, [s1.heap.objs.size + 4, s1.heap.objs.size + 2, s1.heap.objs.size + 3, s1.heap.objs.size, s1.heap.objs.size + 1], _, _, H1, rfl, I2, turn_zipS (zip_sep2 (fp1 := []) (fp2 := [b]) (fun b hb => nomatch hb) (fun c hc => by rw [List.mem_singleton.mp hc]; exact hbl)), ⟨hz, hTI, ⟨_, _, hTO⟩, ⟨_, h1, rfl, rfl⟩, ⟨_, h2, rfl, rfl⟩, Nat.zero_le _, Nat.zero_le _⟩, fresh5, q⟩
theorem itOk_zipS {K : PySem.W.Frag} {ρ0 : Lay} {H0 : Hp} {x : Str} {b : Addr} {us : List V} {ys : List Vl} (h' : ∀ ρ H, Ext ρ0 H0 ρ H → SqT K H b us) (r' : RVs K ρ0 H0 ys us) : ItOk K (ItzS K x b us.length) ρ0 H0 (zipZ (chrs x) ys) := fun i ρ m H E M => by
  refine ⟨fun z hz => ?_, fun hl => ⟨us, h' ρ H E, rfl, by
    unfold zipZ at hl
    rw [List.length_zipWith, chrs_len, r'.length] at hl
    omega⟩⟩
  unfold zipZ at hz
  rw [List.getElem?_zipWith] at hz
  cases q1 : (chrs x)[i]? with
  | none =>
    rw [q1] at hz
    cases q2 : ys[i]? <;> rw [q2] at hz <;> cases hz
  | some y =>
    rw [q1] at hz
    cases q2 : ys[i]? with
    | none => rw [q2] at hz; cases hz
    | some y2 =>
      rw [q2] at hz
      cases hz
      obtain ⟨c, hc, rfl⟩ := chrs_get q1
      obtain ⟨v, h1, h2⟩ := r'.get q2
      refine ⟨⟨us, c, v, h' ρ H E, rfl, hc, h1⟩, fun w H' q => ?_⟩
      obtain ⟨T, c', u, rfl, hT, rfl, q3, q4⟩ := q
      rw [hc] at q3
      cases q3
      have q5 := q4 us (h' ρ _ E)
      rw [h1] at q5
      cases q5
      exact ⟨M.laid hT, ext_new hT, new_tup M hT ⟨_, _, rfl, rfl, _, _, rfl, h2.mono E, rfl⟩⟩
def iZpS (d : DA) : DA := fun env m => bindR (d env m) fun xs m => match xs with
  | [.str x, .tup ys] => some (.ok (zipZ (chrs x) ys), m)
  | _ => none
theorem si_zipS {d : DA} (hg : Gl X "zip") (hm : X.mg "zip" = none) (ha : SA X [e, e2] d)
    (hs : starEach [e, e2] X.env = (false, eval e X.env) :: starEach [e2] X.env := by rfl) (hpl : (backTo pos (starEach [e2] X.env)).any (·.1) = false := by rfl) :
    SI X (.Tuple elts kk tpos) (.Call (.Name "zip" p) [e, e2] [] pos) (iZpS d) := ⟨fun W tk => impPI (pi_zipS hg hm (ha.run W tk) hs hpl) fun σ H R h =>
  rdI_A (Q := fun vs H1 => ∃ x b ys, vs = [.str x, .ref b] ∧ SqT X.K H1 b ys ∧ R (ItzS X.K x b ys.length) H1) h (fun x m1 ρ env xs v H1 s r e k => by
    split at e
    · rename_i y zs
      cases e
      obtain ⟨w, vs, rfl, r1, w2, vs2, rfl, r2, r3⟩ := r
      subst r3
      obtain ⟨q2, vs2, rfl, h3, h4⟩ := r2
      exact ⟨y, q2, vs2, by rw [show w = V.str y from r1], h3.sq, k _ (itOk_zipS (fun ρ' H' E => (h3.mono E).sq) h4)⟩
    · cases e) fun x m r m' e => by
    split at e
    · cases e
      exact ⟨⟨_, rfl⟩, rfl⟩
    · cases e⟩
@[simp] theorem iZpS_ap {d : DA} {env : Ev} {m : Mem} : iZpS d env m = bindR (d env m) fun xs m => match xs with
  | [.str x, .tup ys] => some (.ok (zipZ (chrs x) ys), m)
  | _ => none := rfl
end
/-! ### list(text) -/
theorem vals_pt : ∀ {xs : List V} {vs : List Value}, xs.length = vs.length → (∀ (i : Nat) (x : V) (v : Value), xs[i]? = some x → vs[i]? = some v → RelV x v) → Vals xs vs
  | [], [], _, _ => .nil
  | [], _ :: _, h, _ => by cases h
  | _ :: _, [], h, _ => by cases h
  | x :: xs, v :: vs, h, k => .cons (k 0 x v rfl rfl) (vals_pt (Nat.succ.inj h) fun i y w h1 h2 => k (i + 1) y w h1 h2)
def chrV (x : Str) : List V := x.cps.toList.map fun c => .str ⟨#[c]⟩
theorem call_listS {X : Cx} (hc : X.calm = true) : CallR X (.type "list") (fun xs H Q => ∃ x : Str, xs = [.str x] ∧ x.cps.size ≤ sizeLine ∧ ∀ l, H l = none → Q (.ref l) (upd H l (.lst (chrV x)))) := by
  intro pins s σ H xs us Q I r h
  obtain ⟨x, rfl, hz, q⟩ := h
  obtain ⟨u, rfl, rx⟩ := vals1 r
  obtain ⟨t, rfl⟩ := (show ∃ t, u = Value.str x t from rx)
  have hh : X.A.handled = none := I.ok.hd hc
  refine call_list_str hh x t (fun h' tk acc' c' kp e it => ?_) hz
  have rv : Vals (chrV x) acc'.toList := vals_pt (by unfold chrV; rw [List.length_map, Array.length_toList, Array.length_toList, it.1]) fun i y v h1 h2 => by
    obtain ⟨c, w, h3, rfl⟩ := it.2 i v (by simpa using h2)
    unfold chrV at h1
    rw [List.getElem?_map, show x.cps.toList[i]? = some c by simpa using h3] at h1
    cases h1
    exact ⟨w, rfl⟩
  exact ⟨.ref s.heap.objs.size, _, I.laid (t' := tk) kp (Nat.le_refl _) (show ObjOk X.prog X.w _ h' _ (.lst (chrV x)) from ⟨by unfold chrV; rw [List.length_map, Array.length_toList]; exact hz, acc'.toList, c', rv, by simpa using e⟩), rfl, q _ (I.hok.fresh (Nat.le_refl _))⟩
theorem rv_chrs {K : PySem.W.Frag} {ρ : Lay} {H : Hp} (x : Str) : RVs K ρ H (chrs x) (chrV x) := by
  unfold chrs chrV
  induction x.cps.toList with
  | nil => rfl
  | cons c l ih => exact ⟨_, _, rfl, rfl, ih⟩
section
variable {X : Cx} {e : Expr} {es : List Expr} {p pos : Pos} {d : DA}
def dListS (d : DA) : DA := fun env m => bindR (d env m) fun xs m => match xs with
  | [.str x] => if x.length ≤ sizeLine then some (.ok (chrs x), m) else none
  | _ => none
theorem sl_listS (hc : X.calm = true) (hg : Gl X "list") (hm : X.mg "list" = none) (ha : SA X (e :: es) d) (he : starEach (e :: es) X.env = (false, eval e X.env) :: starEach es X.env := by rfl) (hpl : (backTo pos (starEach es X.env)).any (·.1) = false := by rfl) :
    SL X (.Call (.Name "list" p) (e :: es) [] pos) (dListS d) := ⟨fun W tk => impPE (pe_callTy (call_listS hc) hg hm (by decide +kernel) (ha.run W tk) (by decide) (by decide) he hpl) fun σ H Q ⟨ρ, env, m, z, m', s, e, p⟩ => by
    unfold dListS bindR at e
    split at e
    · cases e
    · rename_i xs m1 h0
      refine goA s h0 fun ρ' H' vs s' E r => ?_
      dsimp only at e
      split at e
      · rename_i x
        split at e
        · rename_i hz
          cases e
          obtain ⟨v, t, rfl, h1, h2⟩ := r
          subst h2
          refine ⟨x, by rw [show v = V.str x from h1], hz, fun l hl => p ρ' _ (s'.mem.laid hl) (E.trans (ext_new hl)) _ ⟨l, chrV x, rfl, ⟨s'.mem.fresh hl, s'.mem.freshz hl, E.none hl⟩, upd_same, ?_, rv_chrs x⟩⟩
          unfold chrV
          rw [List.length_map, Array.length_toList]
          exact hz
        · cases e
      · cases e
    · rename_i c fs m1 h0
      cases e
      exact exA s h0 fun ρ' H' dd s' E r => p ρ' H' s'.mem E dd r⟩
@[simp] theorem dListS_ap {d : DA} {env : Ev} {m : Mem} : dListS d env m = bindR (d env m) fun xs m => match xs with
  | [.str x] => if x.length ≤ sizeLine then some (.ok (chrs x), m) else none
  | _ => none := rfl
end
/-! texts compared -/
def leS : F2 := fun x y m => match x, y with
  | .str i, .str j => some (.bl (!decide (j.cps.toList < i.cps.toList)), m)
  | _, _ => none
theorem sf_leS {K : PySem.W.Frag} : SF2 K leS (fun x y H Q => ∃ i j, x = .str i ∧ y = .str j ∧ Q (.bl (!decide (j.cps.toList < i.cps.toList))) H) := fun ρ m H x y v u z m' Q M a b e k => by
  unfold leS at e
  split at e
  · cases e
    exact ⟨_, _, a, b, k ρ H _ M .refl rfl⟩
  · cases e
@[simp] theorem leS_str {i j : Str} {m : Mem} : leS (.str i) (.str j) m = some (.bl (!decide (j.cps.toList < i.cps.toList)), m) := rfl
end Z
namespace PySem
namespace HandSPX
open PySem.W PySem.Calls PyProof.Rows Builtin Builtin.ObjectAttr
section
variable {prog : Program} {w : World} {M : Model} {A : Around} {E : Value → Shared → Prop} {R : Result → Shared → Prop} {h : Heap} {g : Array GenState} {d : Drawn} {t : Nat} {os : OsState}
variable {nm q : Str} {C N : Addr} {bs bm bmB : List Value} {hdct : Bool} {sn : List Str} {sub : List Value} {ab : Bool} {col : Option Bool} {dd : Option Addr} {k0 k1 k2 k3 k5 : Option Value} {B newId initId : String} {kw : List (Str × Value)}
theorem check_newK (F : ExcBaseFacts B newId initId bmB) (hT : ∀ X : String, bm.contains (.type X) = bmB.contains (.type X)) {rest : List Value} {Q : Unit → Shared → Prop}
    (hC : h.get? C = some (excClassObj nm q C N bs bm hdct sn sub ab col dd k0 k1 k2 k3 k5 newId)) (hq : Q () ⟨h, g, d, t, os⟩) : wpAny M A (checkBuiltinCall newId ⟨.ref C :: rest, kw⟩) Q E ⟨h, g, d, t, os⟩ := by
  have hcont : (Value.ref C :: bm).contains (.type B) = true := by rw [List.contains_cons, hT, F.hasB, Bool.or_true]
  have hstar := F.noStar
  simp only [checkBuiltinCall, F.newKind, F.newSplit, F.newRow]
  repeat (first | refine wpAny_loadPart_at hC ?_ | (refine wpAny_isSubtype_exc hC ?_; rw [hcont]) | refine wpAny_staticBase_exc hC ?_ | refine wpAny_madeBy_exc hC ?_ | simp only [bne_self_eq_false, Bool.false_eq_true, if_false] | wp_step)
  exact hq
theorem newK (F : ExcBaseFacts B newId initId bmB) (hT : ∀ X : String, bm.contains (.type X) = bmB.contains (.type X)) {rest : List Value}
    (hC : h.get? C = some (excClassObj nm q C N bs bm hdct sn sub ab col dd k0 k1 k2 k3 k5 newId))
    (hq : R (.ok (.ret (.ref (h.objs.size + 1)))) ⟨(h.push { cls := .type "tuple", data := .seq rest.toArray }).push
      { cls := .ref C, data := .fields #[.ref h.objs.size, .none, .none, .none, .bool false, .none] }, g, d, t, os⟩) (hrest : rest.length ≤ sizeLine) :
    codeAny (model prog w) A (.builtin newId ⟨.ref C :: rest, kw⟩) R ⟨h, g, d, t, os⟩ := by
  have hends := F.ends
  have hcB : (Value.ref C :: bm).contains (.type B) = true := by rw [List.contains_cons, hT, F.hasB, Bool.or_true]
  have hcA : (Value.ref C :: bm).contains (.type "AttributeError") = false := by rw [List.contains_cons, hT, F.noAttr]; rfl
  have hcN : (Value.ref C :: bm).contains (.type "NameError") = false := by rw [List.contains_cons, hT, F.noName]; rfl
  refine codeAny_builtinAt F.entry ?_
  unfold Builtin.«BaseException.__new__»
  refine wpAt_bind ?_
  show wpAt _ _ _ (stack >>= _) _ _ _
  refine wpAt_bind (wpAt_stack fun p below => wpAt_of_wpAny ?_)
  wp_walk
  refine wpAt_of_wpAny ?_
  rw [F.owner]
  repeat (first | with_reducible refine wpAny_madeHere_exc F.canon hC ?_ | with_reducible refine wpAny_loadPart_at hC ?_ | (with_reducible refine wpAny_isSubtype_exc hC ?_; first | rw [hcB] | rw [hcA] | rw [hcN]) | wp_step)
  show R _ _
  rw [Heap.size_push]
  exact hq
theorem check_typeK {rest : List Value} {Q : Unit → Shared → Prop} (hC : h.get? C = some (excClassObj nm q C N bs bm hdct sn sub ab col dd k0 k1 k2 k3 k5 newId))
    (hq : Q () ⟨h, g, d, t, os⟩) : wpAny M A (checkBuiltinCall "type.__call__" ⟨.ref C :: rest, kw⟩) Q E ⟨h, g, d, t, os⟩ := by
  have f3 := tc_sub
  have hT : (⟨h, g, d, t, os⟩ : Shared).TypeIs (.ref C) "type" := ⟨_, hC, rfl⟩
  simp only [checkBuiltinCall, tc_kind, tc_split]
  repeat (any_goals (first | assumption | with_reducible refine wpAny_loadPart_at hC ?_ | with_reducible refine wpAny_onRaise ?_ | with_reducible refine wpAny_map ?_ | wp_step))
theorem type_callK (F : ExcBaseFacts B newId initId bmB) (hT : ∀ X : String, bm.contains (.type X) = bmB.contains (.type X)) {rest : List Value} {fI : Addr} {Q : Fin → Shared → Prop}
    (hC : h.get? C = some (excClassObj nm q C N bs bm hdct sn sub ab col dd k0 k1 k2 k3 k5 newId))
    (hi : W.Looks (model prog w) h (typeLookup (.ref C) "__init__") (some (.ref fI))) (hb : ∀ self, W.Looks (model prog w) h (bindSpecial (.ref fI) self) (.ref fI, [self])) (hrest : rest.length ≤ sizeLine)
    (hq : codeAny (model prog w) A (.call (.ref fI) ⟨.ref (h.objs.size + 1) :: rest, kw⟩)
      (fun r s' => match r with | .ok (.ret v) => v = .none ∧ Q (.done (.ret (.ref (h.objs.size + 1)))) s' | .ok _ => False | .error e => E e s')
      ⟨(h.push (W.kdv_tup rest)).push (excO C h.objs.size), g, d, t, os⟩) :
    wpAny (model prog w) A (Builtin.«type.__call__» ⟨.ref C :: rest, kw⟩) Q E ⟨h, g, d, t, os⟩ := by
  repeat (first | with_reducible refine wpAny_loadPart_at hC ?_ | with_reducible refine wpAny_madeBy_exc hC ?_ | wp_step)
  refine codeAny_call_builtin_code (Code.quiet_builtin _ F.quiet) (check_newK F hT hC ?_)
  refine newK F hT hC ?_ hrest
  show wpAny _ _ _ _ _ _
  have k : ∀ b o, h.get? b = some o → ((h.push (W.kdv_tup rest)).push (excO C h.objs.size)).get? b = some o := fun b o e => Heap.get?_push_of_some _ (Heap.get?_push_of_some _ e)
  have hC₁ := k _ _ hC
  have hget : ((h.push (W.kdv_tup rest)).push (excO C h.objs.size)).get? (h.objs.size + 1) = some (excO C h.objs.size) := by heap_get
  have hcC : (Value.ref C :: bm).contains (.ref C) = true := by simp
  have i1 := hi.keeps k
  have b1 := (hb (.ref (h.objs.size + 1))).keeps k
  unfold isInstance
  repeat (first | with_reducible refine wpAny_loadPart_at hget ?_ | (with_reducible refine wpAny_isSubtype_exc hC₁ ?_; rw [hcC]) | wp_step)
  show wpAny _ _ (typeLookup (.ref C) _) _ _ _
  refine i1.at ?_
  refine wpAny_holding (wpAny_bind (b1.at ?_))
  refine wpAny_bind (wpAny_call (codeAny_mono hq fun r s' z => ?_))
  rcases r with e | (v | _ | _ | _) <;> first | exact z | exact z.elim | skip
  obtain ⟨rfl, z⟩ := z
  first
    | exact wpAny_pure (wpAny_pure z)
    | (wp_walk; exact z)
theorem call_ownK (F : ExcBaseFacts B newId initId bmB) (hT : ∀ X : String, bm.contains (.type X) = bmB.contains (.type X)) {rest : List Value} {fI : Addr}
    (hC : h.get? C = some (excClassObj nm q C N bs bm hdct sn sub ab col dd k0 k1 k2 k3 k5 newId))
    (hi : W.Looks (model prog w) h (typeLookup (.ref C) "__init__") (some (.ref fI))) (hb : ∀ self, W.Looks (model prog w) h (bindSpecial (.ref fI) self) (.ref fI, [self])) (hrest : rest.length ≤ sizeLine)
    (hq : codeAny (model prog w) (A.under (.builtin "type.__call__" ⟨.ref C :: rest, kw⟩)) (.call (.ref fI) ⟨.ref (h.objs.size + 1) :: rest, kw⟩) (W.InitBack (h.objs.size + 1) R)
      ⟨(h.push (W.kdv_tup rest)).push (excO C h.objs.size), g, d, t, os⟩) :
    codeAny (model prog w) A (.call (.ref C) ⟨rest, kw⟩) R ⟨h, g, d, t, os⟩ := by
  have f1 := tc_lookup
  have f2 := tc_bind (.ref C)
  have hTy : (⟨h, g, d, t, os⟩ : Shared).TypeIs (.ref C) "type" := ⟨_, hC, rfl⟩
  refine codeAny_of_tree ?_
  show wpAny _ _ (callAny (.ref C) _) _ _ _
  repeat (any_goals (first | assumption | with_reducible refine wpAny_loadPart_at hC ?_ | wp_step))
  refine ⟨rfl, ?_⟩
  refine codeAny_call_builtin_at (Code.quiet_builtin _ (by decide +kernel)) entry_typeCall (check_typeK hC (type_callK F hT hC hi hb hrest ?_))
  refine codeAny_mono hq fun r s' z => ?_
  rcases r with e | (v | _ | _ | _) <;> exact z
end
end HandSPX
end PySem
namespace Z
open PySem PySem.Spec PyProof.Rows L2
variable [Kd]
section
variable {P : Program} {w : World} {A : Around} {R : Result → Shared → Prop} {K : PySem.W.Frag} {mg mb : Str → Option Value} {hp : Heap} {g : Array GenState} {dr : Drawn} {tk : Nat} {os : OsState} {C : Addr} {f : Str}
theorem err_initK (Er : ErrI P K C f) {rest : List Value} {kw : List (Str × Value)} (X : K.In hp) (hg : hp.Ns mainGlobals mg) (hm : mg "super" = none) (hb : hp.Ns builtinsNs mb) (hbb : ∀ x : Str, x ≠ "__name__" → mb x = bootBuiltins x) (hl : hp.NoLimit) (room : A.depth < recursionLimit) {u : Value} (hbind : bindArgs (PySem.W.ksFn "__init__" Er.qual ⟨[], [Er.ar, Er.arp], none, [], [], none, []⟩ [.Expr (.Call (.Attribute (.Call (.Name "super" Er.p0) [] [] Er.p1) "__init__" Er.p2) [.Constant (.str Er.txt) Er.ck Er.p3] [] Er.p4) Er.p5, .Assign [.Attribute (.Name Er.ar.arg Er.q0) f Er.q1] (.Name Er.arp.arg Er.q2) Er.q3] Er.scope .none Er.kV Er.doc Er.pm Er.an (.ref Er.cda) Er.ct Er.cc) ⟨.ref (hp.objs.size + 1) :: rest, kw⟩ = pure [(Er.ar.arg, .ref (hp.objs.size + 1)), (Er.arp.arg, u)])
    (hq : ∀ (h' : Heap) (dx t' : Addr) (hsh : Int) (tq tk' : Nat), (∀ b o, hp.get? b = some o → h'.get? b = some o) → h'.get? (hp.objs.size + 1) = some (PySem.W.excObj C t' (some dx) .none) → h'.get? dx = some (PySem.W.dictOf [⟨hsh, .str f tq, u⟩] 1) →
      hp.objs.size ≤ dx → dx ≠ hp.objs.size + 1 → R (.ok (.ret .none)) ⟨h', g, dr, tk', os⟩) :
    codeAny (model P w) A (.call (.ref Er.fI) ⟨.ref (hp.objs.size + 1) :: rest, kw⟩) R ⟨(hp.push (PySem.W.excTup rest)).push (PySem.W.excObj C hp.objs.size none .none), g, dr, tk, os⟩ := by
  have kk : ∀ b o, hp.get? b = some o → ((hp.push (PySem.W.excTup rest)).push (PySem.W.excObj C hp.objs.size none .none)).get? b = some o := fun b o e => Heap.get?_push_of_some _ (Heap.get?_push_of_some _ e)
  have hx : ((hp.push (PySem.W.excTup rest)).push (PySem.W.excObj C hp.objs.size none .none)).get? (hp.objs.size + 1) = some (PySem.W.excObj C hp.objs.size none .none) := by heap_get
  have ht : ((hp.push (PySem.W.excTup rest)).push (PySem.W.excObj C hp.objs.size none .none)).get? hp.objs.size = some (PySem.W.excTup rest) := by heap_get
  have hsz : ((hp.push (PySem.W.excTup rest)).push (PySem.W.excObj C hp.objs.size none .none)).objs.size = hp.objs.size + 2 := by rw [Heap.size_push, Heap.size_push]
  have Xk := X.keeps kk
  refine ks_codeAny_call_defAt room (Xk _ _ Er.lk) rfl (hl.keeps kk) (PySem.W.codeRec_of Xk Er.code) rfl (.of_eq hbind) Er.nocell ?_ (fun h0 hns hk => ?_) Er.co Er.gen Er.kind
  · intro y hy
    rcases List.mem_cons.mp hy with rfl | hy
    · exact Er.sar
    · rcases List.mem_cons.mp hy with rfl | hy
      · exact Er.sap
      · cases hy
  have hL : ((hp.push (PySem.W.excTup rest)).push (PySem.W.excObj C hp.objs.size none .none)).objs.size = hp.objs.size + 2 := hsz
  have nx : hp.get? (hp.objs.size + 1) = none := Heap.get?_none_of_le (Nat.le_add_right _ _)
  have F0 : PyProof.Rows.Fr hp (hp.objs.size + 2) h0 (fun y => [(Er.ar.arg, Value.ref (hp.objs.size + 1)), (Er.arp.arg, u)].reverse.lookup y) := ⟨hL ▸ hns, fun b o e => hk b o (kk b o e), Nat.le_add_right _ 2⟩
  have N0 : PyProof.Rows.News hp (hp.objs.size + 2) h0 [(hp.objs.size + 1, PySem.W.excObj C hp.objs.size none .none)] := fun p hp' => by
    rcases List.mem_cons.mp hp' with rfl | hp'
    · exact ⟨hk _ _ hx, Nat.ne_of_lt (Nat.lt_succ_self _), nx⟩
    · cases hp'
  have X0 : K.In h0 := X.keeps F0.keep
  obtain ⟨oC, hC1, hC2⟩ : ∃ oC, h0.get? C = some oC ∧ oC.data = .cls Er.cdC := by
    have e := Er.lC
    unfold PySem.W.clsIn at e
    split at e
    · rename_i c d cd sl ho
      cases e
      exact ⟨_, X0 _ _ ho, rfl⟩
    · cases e
  have hi : interactive (PySem.W.ksEnv Er.qual Er.scope (hp.objs.size + 2) Er.fI (.ref Er.cda) Er.cc) = false := by
    show ((Er.scope.kind == ScopeKind.module) && _) = false
    rw [Er.kind]
    rfl
  have I0 : PySem.W.InstAt h0 (hp.objs.size + 1) (PySem.W.excObj C hp.objs.size none .none) C none := ⟨hk _ _ hx, rfl, rfl, trivial⟩
  have look1 : ∀ y : Str, y = Er.ar.arg → [(Er.ar.arg, Value.ref (hp.objs.size + 1)), (Er.arp.arg, u)].reverse.lookup y = some (Value.ref (hp.objs.size + 1)) := fun y e => by
    subst e
    have d : (Er.ar.arg == Er.arp.arg) = false := by simpa using Er.dist
    simp [List.lookup, d]
  have look2 : [(Er.ar.arg, Value.ref (hp.objs.size + 1)), (Er.arp.arg, u)].reverse.lookup Er.arp.arg = some u := by simp [List.lookup]
  show _root_.PySem.wpAt (model P w) (A.deeper (PySem.W.ksEnv Er.qual Er.scope _ Er.fI (.ref Er.cda) Er.cc)) _ (execs _ (PySem.W.ksEnv Er.qual Er.scope _ Er.fI (.ref Er.cda) Er.cc)) _ _ _
  rw [hL]
  refine ks_wpAt_execs_cons (ks_wpAt_Expr_any (ks_wpAt_MethodCall ?_ (Er.hev _)) hi)
  refine ks_wpAt_super_base (f := Er.fI) (cc := Er.cda) (ar := Er.ar) Er.sup Er.scl (by decide +kernel) rfl (X0 _ _ Er.lk) rfl rfl rfl (X0 _ _ Er.lcd) rfl Er.lvs Er.lfile Er.ltop ?_
  refine PySem.W.ks_loadName_global Er.kind Er.sup (PySem.Calls.loadGlobal_builtin (hg.keeps F0.keep) hm (hb.keeps F0.keep) ((hbb _ (by decide +kernel)).trans PyProof.Rows.Boot.«super») ⟨rfl, ?_⟩)
  refine wpAny_loadName_free Er.kind Er.scl rfl ⟨_, X0 _ _ Er.lcell, rfl⟩ ?_
  refine wpAny_loadName_local Er.kind Er.sar F0.ns (look1 _ rfl) ?_
  refine ks_wpAny_isType_cls hC1 hC2 ⟨rfl, ?_⟩
  refine ks_wpAny_call_super hC1 hC2 I0.at_ I0.cls (fun c e => nomatch e) (PySem.W.looks_mroIn X0 Er.mroC) (fun h1 e1 k1 => ?_)
  obtain ⟨F1, N1, l1⟩ := PySem.W.ks_newsPush (s := ⟨h0, g, dr, 0, os⟩) F0 N0 rfl e1 k1
  refine PySem.W.kxs_method (pl := Er.pl _) Er.base.kf (s := ⟨h1, g, dr, _, os⟩) F1 X N1 List.mem_cons_self (PySem.W.InstAt.of_exc0 N1 (List.mem_cons_of_mem _ List.mem_cons_self)) Er.opq Er.above Er.sub (by decide +kernel) (fun q h2 F2 N2 l2 => ?_)
  refine PySem.W.kxs_callWith1 N2 List.mem_cons_self ?_
  refine PyProof.Rows.spliced_more (PySem.Calls.Constant_str ?_) (by rfl)
  refine PyProof.Rows.spliced_none ⟨PySem.W.kxs_at N2 List.mem_cons_self, ?_⟩
  have ne1 : h0.objs.size ≠ hp.objs.size + 1 := fun z => absurd (Heap.lt_size (hk _ _ hx)) (by rw [z]; exact Nat.lt_irrefl _)
  have ne2 : q ≠ hp.objs.size + 1 := Nat.ne_of_gt (l2 _ (List.mem_cons_of_mem _ List.mem_cons_self))
  refine PySem.W.kxs_call (s := ⟨h2, g, dr, _, os⟩) F2 X N2 Er.base.fb Er.xin List.mem_cons_self (.tail ne2 (.tail ne1 (.head (fun p hp' => nomatch hp')))) (show 1 ≤ sizeLine by decide) (fun t3 h3 F3 N3 l3 => ?_)
  refine ks_wpAt_execs_cons (ks_wpAt_Assign_Attr (wpAt_of_wpAny (PySem.ESX.ldL F3.ns look2 (PySem.ESX.ldL F3.ns (look1 _ rfl) ?_ Er.kind Er.sar Er.nodb) Er.kind Er.sap Er.nodp)))
  have ne3 : t3 ≠ hp.objs.size + 1 := Nat.ne_of_gt (l3 _ mem3)
  refine PySem.W.set_exc0 (s := ⟨h3, g, dr, _, os⟩) Er.base.sf F3 X N3 mem4 Er.sat Er.over Er.tak Er.hdC rfl (.tail ne3 (.tail ne2 (.tail ne1 (.head (fun p hp' => nomatch hp'))))) (show 1 ≤ 1000 by decide) (fun dx h4 F4 N4 l4 => ?_)
  have lt : hp.objs.size + 1 < dx := l4 _ mem4
  have N5 : PyProof.Rows.News hp (hp.objs.size + 2) h4 [_, _, _, _, (hp.objs.size + 1, PySem.W.excObj C t3 (some dx) .none)] := N4
  have m4 := N5 _ mem5
  have m5 := N5 _ List.mem_cons_self
  exact wpAt_of_wpAny (wpAny_pure (hq h4 dx t3 _ _ _ F4.keep m4.1 m5.1 (Nat.le_of_lt (Nat.lt_of_succ_lt lt)) (Nat.ne_of_gt lt)))
end
section
variable {X : Cx} {pins : List (Addr × Obj)} {σ : L2.St} {H : Hp} {s : Shared} {C : Addr} {f : Str} {k : Nat}
/-- what C(..) leaves: a the error, dd its dict, sI the state without a -/
structure MadeL (X : Cx) (pins : List (Addr × Obj)) (σ : L2.St) (H : Hp) (C : Addr) (gs : List (Str × V)) (u : Value) (s' : Shared) : Prop where
  ex : ∃ (a dd t : Addr) (sI : Shared), u = .ref a ∧ L2.Inv X pins σ (upd H dd (.xd gs)) sI ∧ (∀ b o, sI.heap.get? b = some o → s'.heap.get? b = some o) ∧ sI.heap.get? a = none ∧
    s'.heap.get? a = some (PySem.W.excObj C t (some dd) .none) ∧ H a = none ∧ H dd = none ∧ dd ≠ a ∧ s'.os = sI.os ∧ AllBare s'.gens
theorem made_ep {c : Str} {gs : List (Str × V)} {fs : List (Str × Vl)} {u : Value} {s2 : Shared} {Q : VK} {ρ1 : Lay} {m' : Mem} (mk : MadeL X pins σ H (He.ga X.K c) gs u s2) (hex : X.ex = []) (M1 : RM X.K ρ1 m' H) (rx : ∀ ρ' H', Ext ρ1 H ρ' H' → RFs X.K ρ' H' fs gs)
    (k1 : ∀ ρ' H', RM X.K ρ' m' H' → Ext ρ1 H ρ' H' → ∀ v, RV X.K ρ' H' (.err c fs) v → Q v H') : EP X pins σ Q u s2 := by
  obtain ⟨a, dd, t, sI, rfl, J, kp, na, ea, nh, nd, ne, os, ag⟩ := mk.ex
  obtain ⟨hI, gI, dI, tI, oI⟩ := sI
  obtain ⟨h2, g2, d2, t2, o2⟩ := s2
  have n0 : X.s_0.heap.get? a = none := by
    rcases hz : X.s_0.heap.get? a with _ | o
    · rfl
    · obtain ⟨o', q⟩ := J.base.there a o hz (by rw [hex]; exact fun q => nomatch q)
      cases na.symm.trans q
  have nh' : upd H dd (.xd gs) a = none := by rw [upd_ne (Ne.symm ne)]; exact nh
  have J2 : L2.Inv X pins σ (upd H dd (.xd gs)) ⟨h2, g2, d2, t2, o2⟩ := by
    have e : o2 = oI := os
    subst e
    exact J.call' (ch := []) rfl (Un.kept kp) (J.hok.kept kp) ag (fun b z => absurd z (by simp))
  have T2 := Inv.track (o := exq a (He.ga X.K c) (some dd)) J2 ea nh' n0 (fun z => ?_) (fun y' c' hc z => ?_) (fun p hp z => ?_) (exq_ok ea rfl rfl rfl)
  · have E1 := ext_new (ρ := ρ1) (o := .xd gs) nd
    have M2 := M1.laid (o := .xd gs) nd
    exact ⟨.ref a, _, T2, rfl, k1 ρ1 _ (M2.laid nh') (E1.trans (ext_new nh')) _ (rv_err M2 (dd := some dd) ⟨_, upd_same, M1.fresh nd, rx ρ1 _ E1⟩ nh')⟩
  · obtain ⟨mm, hn, _⟩ := J.loc
    obtain ⟨o, _, _, ho, _⟩ := hn
    rw [← z] at ho
    cases na.symm.trans ho
  · obtain ⟨v, o, ho, _⟩ := J.cell y' c' hc
    rw [z] at ho
    cases na.symm.trans ho
  · have := (J.pin p hp).1
    rw [z] at this
    cases na.symm.trans this
end
end Z
namespace Z
open PySem PySem.Spec PyProof.Rows L2
variable [Kd]
structure ErrJ (P : Program) (K : PySem.W.Frag) (C : Addr) (f g : Str) where
  B : String
  initId : String
  newId : String
  bmB : List Value
  base : BaseF B initId newId bmB
  fI : Addr
  cc : Addr
  cda : Addr
  qual : Str
  ar : Arg
  arp : Arg
  arr : Arg
  scope : Scope
  txt : Str
  p0 : Pos
  p1 : Pos
  p2 : Pos
  p3 : Pos
  p4 : Pos
  p5 : Pos
  q0 : Pos
  q1 : Pos
  q2 : Pos
  q3 : Pos
  r0 : Pos
  r1 : Pos
  r2 : Pos
  r3 : Pos
  ck : Nat
  kV : Value
  doc : Value
  pm : Value
  ct : Value
  an : Option Addr
  oc : Value
  od : Option Addr
  osl : Array (Option Value)
  lk : K.lookup fI = some ⟨oc, od, .func (PySem.W.ksFn "__init__" qual ⟨[], [ar, arp, arr], none, [], [], none, []⟩ [.Expr (.Call (.Attribute (.Call (.Name "super" p0) [] [] p1) "__init__" p2) [.Constant (.str txt) ck p3] [] p4) p5, .Assign [.Attribute (.Name ar.arg q0) f q1] (.Name arp.arg q2) q3, .Assign [.Attribute (.Name ar.arg r0) g r1] (.Name arr.arg r2) r3] scope .none kV doc pm an (.ref cda) ct cc), osl⟩
  code : PySem.W.codeIn K (.ref cda) qual = true
  cvs : Array Value
  file : Str
  tf : Tok
  ccl : Value
  cdd : Option Addr
  ccs : Array (Option Value)
  lcd : K.lookup cda = some ⟨ccl, cdd, .fields cvs, ccs⟩
  lvs : cvs[2]? = some (.str file tf)
  lfile : (P.main.file == file) = true
  ltop : (P.main.scope.names.lookup ("super" : Str)).isSome = false
  cl : Value
  cld : Option Addr
  csl : Array (Option Value)
  lcell : K.lookup cc = some ⟨cl, cld, .cell (some (.ref C)), csl⟩
  cdC : ClassData
  lC : PySem.W.clsIn K C = some cdC
  sup : scope.names.lookup ("super" : Str) = some .globalImplicit
  scl : scope.names.lookup ("__class__" : Str) = some .free
  sar : scope.names.lookup ar.arg = some .local
  sap : scope.names.lookup arp.arg = some .local
  sas : scope.names.lookup arr.arg = some .local
  kind : scope.kind = .function
  co : scope.isCoroutine = false
  gen : scope.isGenerator = false
  nocell : ∀ x ∈ scope.names, x.2 ≠ .cell
  bind : ∀ a b c : Value, bindArgs (PySem.W.ksFn "__init__" qual ⟨[], [ar, arp, arr], none, [], [], none, []⟩ [.Expr (.Call (.Attribute (.Call (.Name "super" p0) [] [] p1) "__init__" p2) [.Constant (.str txt) ck p3] [] p4) p5, .Assign [.Attribute (.Name ar.arg q0) f q1] (.Name arp.arg q2) q3, .Assign [.Attribute (.Name ar.arg r0) g r1] (.Name arr.arg r2) r3] scope .none kV doc pm an (.ref cda) ct cc) ⟨[a, b, c], []⟩ = pure [(ar.arg, a), (arp.arg, b), (arr.arg, c)]
  pl : Env → Sem Bool
  hev : ∀ env : Env, eval (.Call (.Attribute (.Call (.Name "super" p0) [] [] p1) "__init__" p2) [.Constant (.str txt) ck p3] [] p4) env = (do
      let ov ← attributeBase (.Call (.Name "super" p0) [] [] p1) "__init__" env (eval (.Call (.Name "super" p0) [] [] p1) env)
      standAt p2.atName
      let (f, first) ← holding [ov] (getMethod ov "__init__" (pl env))
      callWith p4 f first (backTo p4 (starEach [.Constant (.str txt) ck p3] env)) [])
  dist : ar.arg ≠ arp.arg
  dis2 : ar.arg ≠ arr.arg
  dis3 : arp.arg ≠ arr.arg
  fg : f ≠ g
  nodb : (ar.arg == ("__debug__" : Str)) = false
  nods : (arr.arg == ("__debug__" : Str)) = false
  nodp : (arp.arg == ("__debug__" : Str)) = false
  mroC : PySem.W.mroIn K C (.ref C) = some true
  above : PySem.W.ks_superIn K C C "__init__" = some (some (.builtin initId))
  sub : PySem.W.subIn K (.ref C) (.type B) = some true
  opq : PySem.W.nsIn K cStatics "thirdparty.any" = some none
  xin : PySem.W.excInitIn K C bmB newId = true
  sat : PySem.W.findIn K (.ref C) "__setattr__" = some (some (.builtin "object.__setattr__"))
  over : PySem.W.excOver K C bmB = true
  tak : PySem.W.takerIn K C f = some none
  tak2 : PySem.W.takerIn K C g = some none
  hdC : PySem.W.hasDictIn K C = true
  ini : PySem.W.findIn K (.ref C) "__init__" = some (some (.ref fI))
  tyI : PySem.W.typeIn K (.ref fI) = some (.type "function")
  exC : PySem.W.subIn K (.ref C) (.type "BaseException") = some true
  tyC : PySem.W.typeIn K (.ref C) = some (.type "type")
  kC : PySem.W.keepIn K (.ref C) = true
section
variable {P : Program} {w : World} {A : Around} {R : Result → Shared → Prop} {K : PySem.W.Frag} {mg mb : Str → Option Value} {hp : Heap} {g : Array GenState} {dr : Drawn} {tk : Nat} {os : OsState} {C : Addr} {f : Str}
theorem err_initJ {g' : Str} (Er : ErrJ P K C f g') {rest : List Value} {kw : List (Str × Value)} (X : K.In hp) (hg : hp.Ns mainGlobals mg) (hm : mg "super" = none) (hb : hp.Ns builtinsNs mb) (hbb : ∀ x : Str, x ≠ "__name__" → mb x = bootBuiltins x) (hl : hp.NoLimit) (room : A.depth < recursionLimit) {u u2 : Value} (hbind : bindArgs (PySem.W.ksFn "__init__" Er.qual ⟨[], [Er.ar, Er.arp, Er.arr], none, [], [], none, []⟩ [.Expr (.Call (.Attribute (.Call (.Name "super" Er.p0) [] [] Er.p1) "__init__" Er.p2) [.Constant (.str Er.txt) Er.ck Er.p3] [] Er.p4) Er.p5, .Assign [.Attribute (.Name Er.ar.arg Er.q0) f Er.q1] (.Name Er.arp.arg Er.q2) Er.q3, .Assign [.Attribute (.Name Er.ar.arg Er.r0) g' Er.r1] (.Name Er.arr.arg Er.r2) Er.r3] Er.scope .none Er.kV Er.doc Er.pm Er.an (.ref Er.cda) Er.ct Er.cc) ⟨.ref (hp.objs.size + 1) :: rest, kw⟩ = pure [(Er.ar.arg, .ref (hp.objs.size + 1)), (Er.arp.arg, u), (Er.arr.arg, u2)])
    (hq : ∀ (h' : Heap) (dx t' : Addr) (hsh hs2 : Int) (tq tq2 tk' : Nat), (∀ b o, hp.get? b = some o → h'.get? b = some o) → h'.get? (hp.objs.size + 1) = some (PySem.W.excObj C t' (some dx) .none) → h'.get? dx = some (PySem.W.dictOf [⟨hsh, .str f tq, u⟩, ⟨hs2, .str g' tq2, u2⟩] 2) →
      hp.objs.size ≤ dx → dx ≠ hp.objs.size + 1 → R (.ok (.ret .none)) ⟨h', g, dr, tk', os⟩) :
    codeAny (model P w) A (.call (.ref Er.fI) ⟨.ref (hp.objs.size + 1) :: rest, kw⟩) R ⟨(hp.push (PySem.W.excTup rest)).push (PySem.W.excObj C hp.objs.size none .none), g, dr, tk, os⟩ := by
  have kk : ∀ b o, hp.get? b = some o → ((hp.push (PySem.W.excTup rest)).push (PySem.W.excObj C hp.objs.size none .none)).get? b = some o := fun b o e => Heap.get?_push_of_some _ (Heap.get?_push_of_some _ e)
  have hx : ((hp.push (PySem.W.excTup rest)).push (PySem.W.excObj C hp.objs.size none .none)).get? (hp.objs.size + 1) = some (PySem.W.excObj C hp.objs.size none .none) := by heap_get
  have ht : ((hp.push (PySem.W.excTup rest)).push (PySem.W.excObj C hp.objs.size none .none)).get? hp.objs.size = some (PySem.W.excTup rest) := by heap_get
  have hsz : ((hp.push (PySem.W.excTup rest)).push (PySem.W.excObj C hp.objs.size none .none)).objs.size = hp.objs.size + 2 := by rw [Heap.size_push, Heap.size_push]
  have Xk := X.keeps kk
  refine ks_codeAny_call_defAt room (Xk _ _ Er.lk) rfl (hl.keeps kk) (PySem.W.codeRec_of Xk Er.code) rfl (.of_eq hbind) Er.nocell ?_ (fun h0 hns hk => ?_) Er.co Er.gen Er.kind
  · intro y hy
    rcases List.mem_cons.mp hy with rfl | hy
    · exact Er.sar
    · rcases List.mem_cons.mp hy with rfl | hy
      · exact Er.sap
      · rcases List.mem_cons.mp hy with rfl | hy
        · exact Er.sas
        · cases hy
  have hL : ((hp.push (PySem.W.excTup rest)).push (PySem.W.excObj C hp.objs.size none .none)).objs.size = hp.objs.size + 2 := hsz
  have nx : hp.get? (hp.objs.size + 1) = none := Heap.get?_none_of_le (Nat.le_add_right _ _)
  have F0 : PyProof.Rows.Fr hp (hp.objs.size + 2) h0 (fun y => [(Er.ar.arg, Value.ref (hp.objs.size + 1)), (Er.arp.arg, u), (Er.arr.arg, u2)].reverse.lookup y) := ⟨hL ▸ hns, fun b o e => hk b o (kk b o e), Nat.le_add_right _ 2⟩
  have N0 : PyProof.Rows.News hp (hp.objs.size + 2) h0 [(hp.objs.size + 1, PySem.W.excObj C hp.objs.size none .none)] := fun p hp' => by
    rcases List.mem_cons.mp hp' with rfl | hp'
    · exact ⟨hk _ _ hx, Nat.ne_of_lt (Nat.lt_succ_self _), nx⟩
    · cases hp'
  have X0 : K.In h0 := X.keeps F0.keep
  obtain ⟨oC, hC1, hC2⟩ : ∃ oC, h0.get? C = some oC ∧ oC.data = .cls Er.cdC := by
    have e := Er.lC
    unfold PySem.W.clsIn at e
    split at e
    · rename_i c d cd sl ho
      cases e
      exact ⟨_, X0 _ _ ho, rfl⟩
    · cases e
  have hi : interactive (PySem.W.ksEnv Er.qual Er.scope (hp.objs.size + 2) Er.fI (.ref Er.cda) Er.cc) = false := by
    show ((Er.scope.kind == ScopeKind.module) && _) = false
    rw [Er.kind]
    rfl
  have I0 : PySem.W.InstAt h0 (hp.objs.size + 1) (PySem.W.excObj C hp.objs.size none .none) C none := ⟨hk _ _ hx, rfl, rfl, trivial⟩
  have look1 : ∀ y : Str, y = Er.ar.arg → [(Er.ar.arg, Value.ref (hp.objs.size + 1)), (Er.arp.arg, u), (Er.arr.arg, u2)].reverse.lookup y = some (Value.ref (hp.objs.size + 1)) := fun y e => by
    subst e
    have d : (Er.ar.arg == Er.arp.arg) = false := by simpa using Er.dist
    have d2 : (Er.ar.arg == Er.arr.arg) = false := by simpa using Er.dis2
    simp [List.lookup, d, d2]
  have look2 : [(Er.ar.arg, Value.ref (hp.objs.size + 1)), (Er.arp.arg, u), (Er.arr.arg, u2)].reverse.lookup Er.arp.arg = some u := by
    have d3 : (Er.arp.arg == Er.arr.arg) = false := by simpa using Er.dis3
    simp [List.lookup, d3]
  have look3 : [(Er.ar.arg, Value.ref (hp.objs.size + 1)), (Er.arp.arg, u), (Er.arr.arg, u2)].reverse.lookup Er.arr.arg = some u2 := by simp [List.lookup]
  show _root_.PySem.wpAt (model P w) (A.deeper (PySem.W.ksEnv Er.qual Er.scope _ Er.fI (.ref Er.cda) Er.cc)) _ (execs _ (PySem.W.ksEnv Er.qual Er.scope _ Er.fI (.ref Er.cda) Er.cc)) _ _ _
  rw [hL]
  refine ks_wpAt_execs_cons (ks_wpAt_Expr_any (ks_wpAt_MethodCall ?_ (Er.hev _)) hi)
  refine ks_wpAt_super_base (f := Er.fI) (cc := Er.cda) (ar := Er.ar) Er.sup Er.scl (by decide +kernel) rfl (X0 _ _ Er.lk) rfl rfl rfl (X0 _ _ Er.lcd) rfl Er.lvs Er.lfile Er.ltop ?_
  refine PySem.W.ks_loadName_global Er.kind Er.sup (PySem.Calls.loadGlobal_builtin (hg.keeps F0.keep) hm (hb.keeps F0.keep) ((hbb _ (by decide +kernel)).trans PyProof.Rows.Boot.«super») ⟨rfl, ?_⟩)
  refine wpAny_loadName_free Er.kind Er.scl rfl ⟨_, X0 _ _ Er.lcell, rfl⟩ ?_
  refine wpAny_loadName_local Er.kind Er.sar F0.ns (look1 _ rfl) ?_
  refine ks_wpAny_isType_cls hC1 hC2 ⟨rfl, ?_⟩
  refine ks_wpAny_call_super hC1 hC2 I0.at_ I0.cls (fun c e => nomatch e) (PySem.W.looks_mroIn X0 Er.mroC) (fun h1 e1 k1 => ?_)
  obtain ⟨F1, N1, l1⟩ := PySem.W.ks_newsPush (s := ⟨h0, g, dr, 0, os⟩) F0 N0 rfl e1 k1
  refine PySem.W.kxs_method (pl := Er.pl _) Er.base.kf (s := ⟨h1, g, dr, _, os⟩) F1 X N1 List.mem_cons_self (PySem.W.InstAt.of_exc0 N1 (List.mem_cons_of_mem _ List.mem_cons_self)) Er.opq Er.above Er.sub (by decide +kernel) (fun q h2 F2 N2 l2 => ?_)
  refine PySem.W.kxs_callWith1 N2 List.mem_cons_self ?_
  refine PyProof.Rows.spliced_more (PySem.Calls.Constant_str ?_) (by rfl)
  refine PyProof.Rows.spliced_none ⟨PySem.W.kxs_at N2 List.mem_cons_self, ?_⟩
  have ne1 : h0.objs.size ≠ hp.objs.size + 1 := fun z => absurd (Heap.lt_size (hk _ _ hx)) (by rw [z]; exact Nat.lt_irrefl _)
  have ne2 : q ≠ hp.objs.size + 1 := Nat.ne_of_gt (l2 _ (List.mem_cons_of_mem _ List.mem_cons_self))
  refine PySem.W.kxs_call (s := ⟨h2, g, dr, _, os⟩) F2 X N2 Er.base.fb Er.xin List.mem_cons_self (.tail ne2 (.tail ne1 (.head (fun p hp' => nomatch hp')))) (show 1 ≤ sizeLine by decide) (fun t3 h3 F3 N3 l3 => ?_)
  refine ks_wpAt_execs_cons (ks_wpAt_Assign_Attr (wpAt_of_wpAny (PySem.ESX.ldL F3.ns look2 (PySem.ESX.ldL F3.ns (look1 _ rfl) ?_ Er.kind Er.sar Er.nodb) Er.kind Er.sap Er.nodp)))
  have ne3 : t3 ≠ hp.objs.size + 1 := Nat.ne_of_gt (l3 _ mem3)
  refine PySem.W.set_exc0 (s := ⟨h3, g, dr, _, os⟩) Er.base.sf F3 X N3 mem4 Er.sat Er.over Er.tak Er.hdC rfl (.tail ne3 (.tail ne2 (.tail ne1 (.head (fun p hp' => nomatch hp'))))) (show 1 ≤ 1000 by decide) (fun dx h4 F4 N4 l4 => ?_)
  have lt : hp.objs.size + 1 < dx := l4 _ mem4
  have nfg : ((f == g') = false) := by simpa using Er.fg
  refine ks_wpAt_execs_cons (ks_wpAt_Assign_Attr (wpAt_of_wpAny (PySem.ESX.ldL F4.ns look3 (PySem.ESX.ldL F4.ns (look1 _ rfl) ?_ Er.kind Er.sar Er.nodb) Er.kind Er.sas Er.nods)))
  have N5 : PyProof.Rows.News hp (hp.objs.size + 2) h4 [(dx, _), _, _, _, (hp.objs.size + 1, PySem.W.excObj C t3 (some dx) .none)] := N4
  have hall : ∀ (hsh : Int) (tq : Nat), PySem.W.getL g' [⟨hsh, .str f tq, u⟩] = some none := fun hsh tq => by
    simp [PySem.W.getL, Value.isStr, DictEntry.refKey, nfg]
  have hput : ∀ (hsh hs2 : Int) (tq tq2 : Nat), (PySem.W.putL g' hs2 (.str g' tq2) u2 [⟨hsh, .str f tq, u⟩], PySem.W.putN g' [⟨hsh, .str f tq, u⟩] 1) = ([⟨hsh, .str f tq, u⟩, ⟨hs2, .str g' tq2, u2⟩], 2) := fun hsh hs2 tq tq2 => by
    simp [PySem.W.putL, PySem.W.putN, Value.isStr, nfg]
  refine PySem.W.set_excD (s := ⟨h4, g, dr, _, os⟩) Er.base.sf F4 X N5 mem5 Er.sat Er.over Er.tak2 Er.hdC List.mem_cons_self (by exact congrArg Option.isSome (hall _ _)) (hput _ _ _ _) (.head ?_) (show 2 ≤ 1000 by decide) (fun h6 F6 N6 => ?_)
  · intro p hp'
    rcases List.mem_cons.mp hp' with rfl | hp'
    · exact Nat.ne_of_lt (l4 _ List.mem_cons_self)
    rcases List.mem_cons.mp hp' with rfl | hp'
    · exact Nat.ne_of_lt (l4 _ (List.mem_cons_of_mem _ List.mem_cons_self))
    rcases List.mem_cons.mp hp' with rfl | hp'
    · exact Nat.ne_of_lt (l4 _ (List.mem_cons_of_mem _ (List.mem_cons_of_mem _ List.mem_cons_self)))
    rcases List.mem_cons.mp hp' with rfl | hp'
    · exact Nat.ne_of_lt lt
    · cases hp'
  · have m4 := N6 _ mem5
    have m5 := N6 _ List.mem_cons_self
    exact wpAt_of_wpAny (wpAny_pure (hq h6 dx t3 _ _ _ _ _ F6.keep m4.1 m5.1 (Nat.le_of_lt (Nat.lt_of_succ_lt lt)) (Nat.ne_of_gt lt)))
end
end Z
namespace Z
open PySem PySem.Spec PyProof.Rows L2
variable [Kd]
/-- the dict of such an error with two fields -/
theorem ns1_two {G : Heap} {dx : Addr} {f f' : Str} {hsh hs2 : Int} {tq tq2 : Nat} {u u2 : Value} (ne : f ≠ f') (h : G.get? dx = some (PySem.W.dictOf [⟨hsh, .str f tq, u⟩, ⟨hs2, .str f' tq2, u2⟩] 2)) : G.Ns1 dx (fun y => if y = f then some u else if y = f' then some u2 else none) := by
  refine ⟨_, _, _, h, rfl, ?_, ?_, fun name => ?_⟩
  · intro e he
    have : e = ⟨hsh, .str f tq, u⟩ ∨ e = ⟨hs2, .str f' tq2, u2⟩ := by simpa using he
    rcases this with rfl | rfl
    · exact ⟨_, _, rfl⟩
    · exact ⟨_, _, rfl⟩
  · unfold UniqKeys
    have e : ((f == f') = false) := by simpa using ne
    have ne' : ¬ f' = f := fun z => ne z.symm
    simp [Value.isStr, e, ne, ne']
  · by_cases q : name = f
    · subst q
      simp [nsFind, findBy, Value.isStr]
    · have q2 : ¬ f = name := fun z => q z.symm
      by_cases q3 : name = f'
      · subst q3
        simp [nsFind, findBy, Value.isStr, q, q2]
      · have q4 : ¬ f' = name := fun z => q3 z.symm
        simp [nsFind, findBy, Value.isStr, q, q2, q3, q4]
section
variable {X : Cx} {pins : List (Addr × Obj)} {σ : L2.St} {H : Hp} {s : Shared} {C : Addr} {f f' : Str} {k : Nat}
theorem made_of {rest : List Value} {gs : List (Str × V)} {mA : Str → Option Value} (I : L2.Inv X pins σ H s) {h' : Heap} {dx t' : Addr} {tk' : Nat} (kp : ∀ b o, s.heap.get? b = some o → h'.get? b = some o) (e1 : h'.get? (s.heap.objs.size + 1) = some (PySem.W.excObj C t' (some dx) .none))
    (e2 : ∀ G : Heap, G.get? dx = h'.get? dx → G.Ns1 dx mA) (hr : ∀ z, RelO (gs.lookup z) (mA z)) (l1 : s.heap.objs.size ≤ dx) (l2 : dx ≠ s.heap.objs.size + 1) : MadeL X pins σ H C gs (.ref (s.heap.objs.size + 1)) ⟨h', s.gens, s.drawn, tk', s.os⟩ := by
  have nx : H (s.heap.objs.size + 1) = none := I.hok.fresh (Nat.le_succ _)
  have nd : H dx = none := I.hok.fresh l1
  obtain ⟨hp, g, dr, tk, os⟩ := s
  obtain ⟨G, g1, g2⟩ := restrict h' fun b => decide (b ≠ hp.objs.size + 1)
  have gk : ∀ b, b ≠ hp.objs.size + 1 → G.get? b = h'.get? b := fun b hb => g1 b (decide_eq_true hb)
  have gn : G.get? (hp.objs.size + 1) = none := g2 _ (by simp)
  refine ⟨hp.objs.size + 1, dx, t', ⟨G, g, dr, tk', os⟩, rfl, I.laid (fun b o e => ?_) l1 ⟨_, e2 G (gk _ l2), fun z => hr z⟩, fun b o e => ?_, gn, e1, nx, nd, l2, rfl, I.bare⟩
  · rw [gk b (fun q => by subst q; exact absurd (Heap.lt_size e) (Nat.not_lt.mpr (Nat.le_succ _)))]
    exact kp b o e
  · by_cases q : b = hp.objs.size + 1
    · subst q
      rw [gn] at e
      cases e
    · rw [gk b q] at e
      exact e
theorem rel_two {f f' : Str} (_ne : f ≠ f') {y y2 : V} {u u2 : Value} (r1 : RelV y u) (r2 : RelV y2 u2) (z : Str) : RelO ([(f, y), (f', y2)].lookup z) (if z = f then some u else if z = f' then some u2 else none) := by
  by_cases q : z = f
  · subst q
    simp [List.lookup]
    exact r1
  · have q' : (z == f) = false := by simpa using q
    by_cases q2 : z = f'
    · subst q2
      simp [List.lookup, q, q']
      exact r2
    · have q2' : (z == f') = false := by simpa using q2
      simp [List.lookup, q, q', q2, q2']
      trivial
theorem rel_one {f : Str} {y : V} {u : Value} (r1 : RelV y u) (z : Str) : RelO ([(f, y)].lookup z) (if z = f then some u else none) := by
  by_cases q : z = f
  · subst q
    simp [List.lookup]
    exact r1
  · have q' : (z == f) = false := by simpa using q
    simp [List.lookup, q, q']
    trivial
end
end Z
namespace Z
open PySem PySem.Spec PyProof.Rows L2
variable [Kd]
abbrev ErrI.Bind {P : Program} {K : PySem.W.Frag} {C : Addr} {f : Str} (Er : ErrI P K C f) (rest : List Value) (kw : List (Str × Value)) (u : Value) : Prop := ∀ self : Value, bindArgs (PySem.W.ksFn "__init__" Er.qual ⟨[], [Er.ar, Er.arp], none, [], [], none, []⟩ [.Expr (.Call (.Attribute (.Call (.Name "super" Er.p0) [] [] Er.p1) "__init__" Er.p2) [.Constant (.str Er.txt) Er.ck Er.p3] [] Er.p4) Er.p5, .Assign [.Attribute (.Name Er.ar.arg Er.q0) f Er.q1] (.Name Er.arp.arg Er.q2) Er.q3] Er.scope .none Er.kV Er.doc Er.pm Er.an (.ref Er.cda) Er.ct Er.cc) ⟨self :: rest, kw⟩ = pure [(Er.ar.arg, self), (Er.arp.arg, u)]
abbrev ErrJ.Bind {P : Program} {K : PySem.W.Frag} {C : Addr} {f g : Str} (Er : ErrJ P K C f g) (rest : List Value) (kw : List (Str × Value)) (u u2 : Value) : Prop := ∀ self : Value, bindArgs (PySem.W.ksFn "__init__" Er.qual ⟨[], [Er.ar, Er.arp, Er.arr], none, [], [], none, []⟩ [.Expr (.Call (.Attribute (.Call (.Name "super" Er.p0) [] [] Er.p1) "__init__" Er.p2) [.Constant (.str Er.txt) Er.ck Er.p3] [] Er.p4) Er.p5, .Assign [.Attribute (.Name Er.ar.arg Er.q0) f Er.q1] (.Name Er.arp.arg Er.q2) Er.q3, .Assign [.Attribute (.Name Er.ar.arg Er.r0) g Er.r1] (.Name Er.arr.arg Er.r2) Er.r3] Er.scope .none Er.kV Er.doc Er.pm Er.an (.ref Er.cda) Er.ct Er.cc) ⟨self :: rest, kw⟩ = pure [(Er.ar.arg, self), (Er.arp.arg, u), (Er.arr.arg, u2)]
/-- a class without an __init__ of its own -/
structure ErrN (K : PySem.W.Frag) (C : Addr) : Prop where
  ex : ∃ (B initId newId : String) (bmB : List Value), BaseF B initId newId bmB ∧ PySem.W.excInitIn K C bmB newId = true ∧ PySem.W.findIn K (.ref C) "__init__" = some (some (.builtin initId))
section
variable {X : Cx} {pins : List (Addr × Obj)} {σ : L2.St} {H : Hp} {s : Shared} {C : Addr} {f f' : Str} {k : Nat}
theorem err_callI (Er : ErrI X.prog X.K C f) (I : L2.Inv X pins σ H s) (hm : X.mg "super" = none) (hr : Room (k + 1) X.A) {rest : List Value} {kw : List (Str × Value)} {y : V} {u : Value} (hb : Er.Bind rest kw u) (hz : rest.length ≤ sizeLine) (ry : RelV y u) :
    wpAny (model X.prog X.w) X.A (call (.ref C) rest kw) (MadeL X pins σ H C [(f, y)]) X.xe s := by
  obtain ⟨mb, hb1, hb2⟩ := I.mod.blt
  obtain ⟨nm, N, qn, bs, bm, hdct, sn, sub, ab, col, dc, k0, k1, k2, k3, k5, hC, hT⟩ := PySem.W.excInit_of I.kIn Er.xin
  have glob := I.mod.glob.keeps I.bk
  have blt := hb1.keeps I.bk
  have nol := I.nolimit
  have kin := I.kIn
  obtain ⟨hp, g, dr, tk, os⟩ := s
  refine wpAny_call (PySem.HandSPX.call_ownK Er.base.fb hT hC (PySem.W.looks_findIn kin Er.ini) (fun self => PySem.W.bind_fn kin self Er.tyI) hz (err_initK Er kin glob hm blt hb2 nol (hr.make C rest kw).depth (hb _) fun h' dx t' hsh tq tk' kp e1 e2 l1 l2 => ⟨rfl, ?_⟩))
  exact made_of (rest := rest) I kp e1 (fun G e => ns1_one (e.trans e2)) (rel_one ry) l1 l2
theorem err_callJ (Er : ErrJ X.prog X.K C f f') (I : L2.Inv X pins σ H s) (hm : X.mg "super" = none) (hr : Room (k + 1) X.A) {rest : List Value} {kw : List (Str × Value)} {y y2 : V} {u u2 : Value} (hb : Er.Bind rest kw u u2) (hz : rest.length ≤ sizeLine) (ry : RelV y u) (ry2 : RelV y2 u2) :
    wpAny (model X.prog X.w) X.A (call (.ref C) rest kw) (MadeL X pins σ H C [(f, y), (f', y2)]) X.xe s := by
  obtain ⟨mb, hb1, hb2⟩ := I.mod.blt
  obtain ⟨nm, N, qn, bs, bm, hdct, sn, sub, ab, col, dc, k0, k1, k2, k3, k5, hC, hT⟩ := PySem.W.excInit_of I.kIn Er.xin
  have glob := I.mod.glob.keeps I.bk
  have blt := hb1.keeps I.bk
  have nol := I.nolimit
  have kin := I.kIn
  obtain ⟨hp, g, dr, tk, os⟩ := s
  refine wpAny_call (PySem.HandSPX.call_ownK Er.base.fb hT hC (PySem.W.looks_findIn kin Er.ini) (fun self => PySem.W.bind_fn kin self Er.tyI) hz (err_initJ Er kin glob hm blt hb2 nol (hr.make C rest kw).depth (hb _) fun h' dx t' hsh hs2 tq tq2 tk' kp e1 e2 l1 l2 => ⟨rfl, ?_⟩))
  exact made_of (rest := rest) I kp e1 (fun G e => ns1_two Er.fg (e.trans e2)) (rel_two Er.fg ry ry2) l1 l2
theorem err_callN {c : Str} {Q : VK} {ρ1 : Lay} {m' : Mem} (Er : ErrN X.K (He.ga X.K c)) (I : L2.Inv X pins σ H s) (hex : X.ex = []) (M1 : RM X.K ρ1 m' H)
    (k1 : ∀ ρ' H', RM X.K ρ' m' H' → Ext ρ1 H ρ' H' → ∀ v, RV X.K ρ' H' (.err c []) v → Q v H') : wpAny (model X.prog X.w) X.A (call (.ref (He.ga X.K c)) []) (EP X pins σ Q) X.xe s := by
  obtain ⟨B, initId, newId, bmB, base, xin, ini⟩ := Er.ex
  obtain ⟨nm, N, qn, bs, bm, hdct, sn, sub, ab, col, dc, k0, k1', k2, k3, k5, hC, hT⟩ := PySem.W.excInit_of I.kIn xin
  have kin := I.kIn
  have nh : H (s.heap.objs.size + 1) = none := I.hok.fresh (Nat.le_succ _)
  have na : s.heap.get? (s.heap.objs.size + 1) = none := Heap.get?_none_of_le (Nat.le_succ _)
  have n0 : X.s_0.heap.get? (s.heap.objs.size + 1) = none := by
    rcases hz : X.s_0.heap.get? (s.heap.objs.size + 1) with _ | o
    · rfl
    · obtain ⟨o', q⟩ := I.base.there _ o hz (by rw [hex]; exact fun q => nomatch q)
      cases na.symm.trans q
  obtain ⟨hp, g, dr, tk, os⟩ := s
  refine PySem.W.call_B base.fb hT hC (PySem.W.looks_findIn kin ini) (show 0 ≤ sizeLine by decide) fun h' kp e1 e2 => ?_
  have J2 : L2.Inv X pins σ H ⟨h', g, dr, tk, os⟩ := I.call' (ch := []) rfl (Un.kept kp) (I.hok.kept kp) I.bare (fun b z => absurd z (by simp))
  have T2 := Inv.track (o := exq (hp.objs.size + 1) (He.ga X.K c) none) J2 e1 nh n0 (fun z => ?_) (fun y' c' hc z => ?_) (fun p hp z => ?_) (exq_ok e1 rfl rfl rfl)
  · exact ⟨.ref (hp.objs.size + 1), _, T2, rfl, k1 ρ1 _ (M1.laid nh) (ext_new nh) _ (rv_err M1 (dd := none) (show XD X.K ρ1 H none [] from rfl) nh)⟩
  · obtain ⟨mm, hn, _⟩ := I.loc
    obtain ⟨o, _, _, ho, _⟩ := hn
    rw [← z] at ho
    cases na.symm.trans ho
  · obtain ⟨v, o, ho, _⟩ := I.cell y' c' hc
    rw [z] at ho
    cases na.symm.trans ho
  · have := (I.pin p hp).1
    rw [z] at this
    cases na.symm.trans this
end
/-! ### errors as values, by places and by keywords -/
def errP (c f : Str) : List Vl → List Vl → Mem → Option (R Vl × Mem) := fun xs ys m => match xs, ys with
  | [x], [] => some (.ok (.err c [(f, x)]), m)
  | _, _ => none
def errK (c f : Str) : List Vl → List Vl → Mem → Option (R Vl × Mem) := fun xs ys m => match xs, ys with
  | [], [x] => some (.ok (.err c [(f, x)]), m)
  | _, _ => none
def errP2 (c f g : Str) : List Vl → List Vl → Mem → Option (R Vl × Mem) := fun xs ys m => match xs, ys with
  | [x, y], [] => some (.ok (.err c [(f, x), (g, y)]), m)
  | _, _ => none
/-- the second field's keyword first -/
def errK2 (c f g : Str) : List Vl → List Vl → Mem → Option (R Vl × Mem) := fun xs ys m => match xs, ys with
  | [], [y, x] => some (.ok (.err c [(f, x), (g, y)]), m)
  | _, _ => none
def err0 (c : Str) : List Vl → List Vl → Mem → Option (R Vl × Mem) := fun xs ys m => match xs, ys with
  | [], [] => some (.ok (.err c []), m)
  | _, _ => none
def ErrW (P : Program) (K : PySem.W.Frag) (c f : Str) : Prop := ∃ Er : ErrI P K (He.ga K c) f, ∀ u, Er.Bind [] [(f, u)] u
def ErrW2 (P : Program) (K : PySem.W.Frag) (c f g : Str) : Prop := ∃ Er : ErrJ P K (He.ga K c) f g, (∀ u u2, Er.Bind [u, u2] [] u u2) ∧ ∀ u u2, Er.Bind [] [(g, u2), (f, u)] u u2
section
variable {X : Cx} {c f g : Str} {k : Nat}
theorem errP_runs (E : ErrW X.prog X.K c f) (hex : X.ex = []) (hm : X.mg "super" = none) (hr : Room (k + 1) X.A) : Z.Runs X (He.ga X.K c) 1 [] (errP c f) := fun {W} tk {pins σ H s Q us ws vs zs ρ m m' xs ys r} I a b M ra rb hn hk e p => by
  obtain ⟨Er, _⟩ := E
  match xs, ys, hn, hk with
  | [x], [], _, _ =>
    cases e
    obtain ⟨y, vs', rfl, r1, r2⟩ := ra
    have r2' : vs' = [] := r2
    subst r2'
    have rb' : zs = [] := rb
    subst rb'
    cases b
    cases a with
    | cons q1 q2 =>
      cases q2
      exact wpAny_mono (err_callI Er I hm hr (rest := [_]) (kw := []) (fun self => Er.bind self _) (show 1 ≤ sizeLine by decide) q1) (fun u s2 mk => made_ep (c := c) (fs := [(f, x)]) mk hex M (fun ρ' H' E => ⟨y, [], rfl, r1.mono E, rfl⟩) p) fun _ _ z => z
theorem errK_runs (E : ErrW X.prog X.K c f) (hex : X.ex = []) (hm : X.mg "super" = none) (hr : Room (k + 1) X.A) : Z.Runs X (He.ga X.K c) 0 [f] (errK c f) := fun {W} tk {pins σ H s Q us ws vs zs ρ m m' xs ys r} I a b M ra rb hn hk e p => by
  obtain ⟨Er, hb⟩ := E
  match xs, ys, hn, hk with
  | [], [x], _, _ =>
    cases e
    obtain ⟨y, zs', rfl, r1, r2⟩ := rb
    have r2' : zs' = [] := r2
    subst r2'
    have ra' : vs = [] := ra
    subst ra'
    cases a
    cases b with
    | cons q1 q2 =>
      cases q2
      exact wpAny_mono (err_callI Er I hm hr (rest := []) (kw := [(f, _)]) (hb _) (show 0 ≤ sizeLine by decide) q1) (fun u s2 mk => made_ep (c := c) (fs := [(f, x)]) mk hex M (fun ρ' H' E => ⟨y, [], rfl, r1.mono E, rfl⟩) p) fun _ _ z => z
theorem errP2_runs (E : ErrW2 X.prog X.K c f g) (hex : X.ex = []) (hm : X.mg "super" = none) (hr : Room (k + 1) X.A) : Z.Runs X (He.ga X.K c) 2 [] (errP2 c f g) := fun {W} tk {pins σ H s Q us ws vs zs ρ m m' xs ys r} I a b M ra rb hn hk e p => by
  obtain ⟨Er, hb, _⟩ := E
  match xs, ys, hn, hk with
  | [x, x2], [], _, _ =>
    cases e
    obtain ⟨y, vs', rfl, r1, y2, vs2, rfl, r2, r3⟩ := ra
    have r3' : vs2 = [] := r3
    subst r3'
    have rb' : zs = [] := rb
    subst rb'
    cases b
    cases a with
    | cons q1 q2 =>
      cases q2 with
      | cons q3 q4 =>
        cases q4
        exact wpAny_mono (err_callJ Er I hm hr (rest := [_, _]) (kw := []) (hb _ _) (show 2 ≤ sizeLine by decide) q1 q3) (fun u s2 mk => made_ep (c := c) (fs := [(f, x), (g, x2)]) mk hex M (fun ρ' H' E => ⟨y, _, rfl, r1.mono E, y2, [], rfl, r2.mono E, rfl⟩) p) fun _ _ z => z
theorem errK2_runs (E : ErrW2 X.prog X.K c f g) (hex : X.ex = []) (hm : X.mg "super" = none) (hr : Room (k + 1) X.A) : Z.Runs X (He.ga X.K c) 0 [g, f] (errK2 c f g) := fun {W} tk {pins σ H s Q us ws vs zs ρ m m' xs ys r} I a b M ra rb hn hk e p => by
  obtain ⟨Er, _, hb⟩ := E
  match xs, ys, hn, hk with
  | [], [x2, x], _, _ =>
    cases e
    obtain ⟨y2, zs', rfl, r2, y, zs2, rfl, r1, r3⟩ := rb
    have r3' : zs2 = [] := r3
    subst r3'
    have ra' : vs = [] := ra
    subst ra'
    cases a
    cases b with
    | cons q1 q2 =>
      cases q2 with
      | cons q3 q4 =>
        cases q4
        exact wpAny_mono (err_callJ Er I hm hr (rest := []) (kw := [(g, _), (f, _)]) (hb _ _) (show 0 ≤ sizeLine by decide) q3 q1) (fun u s2 mk => made_ep (c := c) (fs := [(f, x), (g, x2)]) mk hex M (fun ρ' H' E => ⟨y, _, rfl, r1.mono E, y2, [], rfl, r2.mono E, rfl⟩) p) fun _ _ z => z
theorem err0_runs (E : ErrN X.K (He.ga X.K c)) (hex : X.ex = []) : Z.Runs X (He.ga X.K c) 0 [] (err0 c) := fun {W} tk {pins σ H s Q us ws vs zs ρ m m' xs ys r} I a b M ra rb hn hk e p => by
  match xs, ys, hn, hk with
  | [], [], _, _ =>
    cases e
    have ra' : vs = [] := ra
    subst ra'
    have rb' : zs = [] := rb
    subst rb'
    cases a
    cases b
    exact err_callN E I hex M p
end
end Z
namespace Z
open PySem PySem.Spec PyProof.Rows L2
variable [Kd]
theorem errW_of {P : Program} {K : PySem.W.Frag} {c f : Str} {e : EZ} {B initId newId : String} {bmB : List Value} {ar arp : Arg} {txt : Str} {p0 p1 p2 p3 p4 p5 q0 q1 q2 q3 : Pos} {ck : Nat} {pl : Env → Sem Bool} (base : BaseF B initId newId bmB) (hE : fnE K (e.adr K) = e.val ∧ e.ok K = true) (hC : ckErrC c f B initId newId bmB K = true)
    (ha : e.adr K = He.ma K (He.ga K c) "__init__") (hc : e.cls K = He.ga K c) (hp : e.params = ⟨[], [ar, arp], none, [], [], none, []⟩) (hb : e.body = [.Expr (.Call (.Attribute (.Call (.Name "super" p0) [] [] p1) "__init__" p2) [.Constant (.str txt) ck p3] [] p4) p5, .Assign [.Attribute (.Name ar.arg q0) f q1] (.Name arp.arg q2) q3])
    (lfile : (P.main.file == e.file) = true) (ltop : (P.main.scope.names.lookup ("super" : Str)).isSome = false) (sup : e.scope.names.lookup ("super" : Str) = some .globalImplicit) (scl : e.scope.names.lookup ("__class__" : Str) = some .free) (sar : e.scope.names.lookup ar.arg = some .local) (sap : e.scope.names.lookup arp.arg = some .local)
    (kind : e.scope.kind = .function) (co : e.scope.isCoroutine = false) (gen : e.scope.isGenerator = false) (nocell : ∀ x ∈ e.scope.names, x.2 ≠ .cell)
    (bind : ∀ (kV doc pm ct : Value) (an : Option Addr) (cda cc : Addr) (a b : Value), bindArgs (PySem.W.ksFn "__init__" e.qual e.params e.body e.scope .none kV doc pm an (.ref cda) ct cc) ⟨[a, b], []⟩ = pure [(ar.arg, a), (arp.arg, b)])
    (hev : ∀ env : Env, eval (.Call (.Attribute (.Call (.Name "super" p0) [] [] p1) "__init__" p2) [.Constant (.str txt) ck p3] [] p4) env = (do
      let ov ← attributeBase (.Call (.Name "super" p0) [] [] p1) "__init__" env (eval (.Call (.Name "super" p0) [] [] p1) env)
      standAt p2.atName
      let (f, first) ← holding [ov] (getMethod ov "__init__" (pl env))
      callWith p4 f first (backTo p4 (starEach [.Constant (.str txt) ck p3] env)) []))
    (dist : ar.arg ≠ arp.arg) (nodb : (ar.arg == ("__debug__" : Str)) = false) (nodp : (arp.arg == ("__debug__" : Str)) = false)
    (bindk : ∀ (kV doc pm ct : Value) (an : Option Addr) (cda cc : Addr) (a b : Value), bindArgs (PySem.W.ksFn "__init__" e.qual e.params e.body e.scope .none kV doc pm an (.ref cda) ct cc) ⟨[a], [(f, b)]⟩ = pure [(ar.arg, a), (arp.arg, b)]) : ErrW P K c f := by
  obtain ⟨cc, cda, kV, doc, pm, ct, an, oc, od, osl, vs, tf, ccl, cdd, ccs, cl, cld, csl, f1, f2, f3, f4, f5⟩ := EZ.facts hE.1 hE.2
  unfold ckErrC at hC
  simp only [Bool.and_eq_true, decide_eq_true_eq] at hC
  obtain ⟨g1, g2, g3, g4, g5, g6, g7, g8, g9, g10, g11, g12, g13, g14, g15, g16⟩ := hC
  obtain ⟨cd, hcd⟩ := Option.isSome_iff_exists.mp g1
  rw [hc] at f5
  rw [ha] at f1
  obtain ⟨adr, cls, qual, params, body, scope, file⟩ := e
  dsimp only at *
  subst hp hb
  exact ⟨{ B := B, initId := initId, newId := newId, bmB := bmB, base := base, fI := _, cc := cc, cda := cda, qual := qual, ar := ar, arp := arp, scope := scope, txt := txt, p0 := p0, p1 := p1, p2 := p2, p3 := p3, p4 := p4, p5 := p5, q0 := q0, q1 := q1, q2 := q2, q3 := q3, ck := ck, kV := kV, doc := doc, pm := pm, ct := ct, an := an, oc := oc, od := od, osl := osl, lk := f1, code := f2, cvs := vs, file := file, tf := tf, ccl := ccl, cdd := cdd, ccs := ccs, lcd := f3, lvs := f4, lfile := lfile, ltop := ltop, cl := cl, cld := cld, csl := csl, lcell := f5, cdC := cd, lC := hcd, sup := sup, scl := scl, sar := sar, sap := sap, kind := kind, co := co, gen := gen, nocell := nocell, bind := fun a b => bind _ _ _ _ _ _ _ a b, pl := pl, hev := hev, dist := dist, nodb := nodb, nodp := nodp, mroC := g2, above := He.eqO_ok g3, sub := g4, opq := He.eqO_ok g5, xin := g6, sat := He.eqO_ok g7, over := g8, tak := He.eqO_ok g9, hdC := g10, ini := He.eqO_ok g11, tyI := beq_iff_eq.mp g12, exC := g13, tyC := beq_iff_eq.mp g15, kC := g16 }, fun u self => bindk _ _ _ _ _ _ _ self u⟩
def ckErrC2 (c f g : Str) (B initId newId : String) (bmB : List Value) : Ck := fun K => (PySem.W.clsIn K (He.ga K c)).isSome && (decide (PySem.W.mroIn K (He.ga K c) (.ref (He.ga K c)) = some true) && (He.eqO (PySem.W.ks_superIn K (He.ga K c) (He.ga K c) "__init__") (some (some (.builtin initId))) &&
  (decide (PySem.W.subIn K (.ref (He.ga K c)) (.type B) = some true) && (He.eqO (PySem.W.nsIn K cStatics "thirdparty.any") (some none) && (PySem.W.excInitIn K (He.ga K c) bmB newId && (He.eqO (PySem.W.findIn K (.ref (He.ga K c)) "__setattr__") (some (some (.builtin "object.__setattr__"))) &&
  (PySem.W.excOver K (He.ga K c) bmB && (He.eqO (PySem.W.takerIn K (He.ga K c) f) (some none) && (PySem.W.hasDictIn K (He.ga K c) && (He.eqO (PySem.W.findIn K (.ref (He.ga K c)) "__init__") (some (some (.ref (He.ma K (He.ga K c) "__init__")))) &&
  (PySem.W.isFn K (.ref (He.ma K (He.ga K c) "__init__")) && (decide (PySem.W.subIn K (.ref (He.ga K c)) (.type "BaseException") = some true) && (PySem.W.isFn K (.ref (He.ma K (He.ga K c) "__init__")) && (PySem.W.typeIn K (.ref (He.ga K c)) == some (.type "type") && (PySem.W.keepIn K (.ref (He.ga K c)) && He.eqO (PySem.W.takerIn K (He.ga K c) g) (some none))))))))))))))))
theorem errJ_of {P : Program} {K : PySem.W.Frag} {c f g : Str} {e : EZ} {B initId newId : String} {bmB : List Value} {ar arp arr : Arg} {txt : Str} {p0 p1 p2 p3 p4 p5 q0 q1 q2 q3 r0 r1 r2 r3 : Pos} {ck : Nat} {pl : Env → Sem Bool} (base : BaseF B initId newId bmB) (hE : fnE K (e.adr K) = e.val ∧ e.ok K = true) (hC : ckErrC2 c f g B initId newId bmB K = true)
    (ha : e.adr K = He.ma K (He.ga K c) "__init__") (hc : e.cls K = He.ga K c) (hp : e.params = ⟨[], [ar, arp, arr], none, [], [], none, []⟩) (hb : e.body = [.Expr (.Call (.Attribute (.Call (.Name "super" p0) [] [] p1) "__init__" p2) [.Constant (.str txt) ck p3] [] p4) p5, .Assign [.Attribute (.Name ar.arg q0) f q1] (.Name arp.arg q2) q3, .Assign [.Attribute (.Name ar.arg r0) g r1] (.Name arr.arg r2) r3])
    (lfile : (P.main.file == e.file) = true) (ltop : (P.main.scope.names.lookup ("super" : Str)).isSome = false) (sup : e.scope.names.lookup ("super" : Str) = some .globalImplicit) (scl : e.scope.names.lookup ("__class__" : Str) = some .free) (sar : e.scope.names.lookup ar.arg = some .local) (sap : e.scope.names.lookup arp.arg = some .local) (sas : e.scope.names.lookup arr.arg = some .local)
    (kind : e.scope.kind = .function) (co : e.scope.isCoroutine = false) (gen : e.scope.isGenerator = false) (nocell : ∀ x ∈ e.scope.names, x.2 ≠ .cell)
    (bind : ∀ (kV doc pm ct : Value) (an : Option Addr) (cda cc : Addr) (a b b2 : Value), bindArgs (PySem.W.ksFn "__init__" e.qual e.params e.body e.scope .none kV doc pm an (.ref cda) ct cc) ⟨[a, b, b2], []⟩ = pure [(ar.arg, a), (arp.arg, b), (arr.arg, b2)])
    (hev : ∀ env : Env, eval (.Call (.Attribute (.Call (.Name "super" p0) [] [] p1) "__init__" p2) [.Constant (.str txt) ck p3] [] p4) env = (do
      let ov ← attributeBase (.Call (.Name "super" p0) [] [] p1) "__init__" env (eval (.Call (.Name "super" p0) [] [] p1) env)
      standAt p2.atName
      let (f, first) ← holding [ov] (getMethod ov "__init__" (pl env))
      callWith p4 f first (backTo p4 (starEach [.Constant (.str txt) ck p3] env)) []))
    (dist : ar.arg ≠ arp.arg) (dis2 : ar.arg ≠ arr.arg) (dis3 : arp.arg ≠ arr.arg) (fg : f ≠ g) (nodb : (ar.arg == ("__debug__" : Str)) = false) (nodp : (arp.arg == ("__debug__" : Str)) = false) (nods : (arr.arg == ("__debug__" : Str)) = false)
    (bindk : ∀ (kV doc pm ct : Value) (an : Option Addr) (cda cc : Addr) (a b b2 : Value), bindArgs (PySem.W.ksFn "__init__" e.qual e.params e.body e.scope .none kV doc pm an (.ref cda) ct cc) ⟨[a], [(g, b2), (f, b)]⟩ = pure [(ar.arg, a), (arp.arg, b), (arr.arg, b2)]) : ErrW2 P K c f g := by
  obtain ⟨cc, cda, kV, doc, pm, ct, an, oc, od, osl, vs, tf, ccl, cdd, ccs, cl, cld, csl, f1, f2, f3, f4, f5⟩ := EZ.facts hE.1 hE.2
  unfold ckErrC2 at hC
  simp only [Bool.and_eq_true, decide_eq_true_eq] at hC
  obtain ⟨g1, g2, g3, g4, g5, g6, g7, g8, g9, g10, g11, g12, g13, g14, g15, g16, g17⟩ := hC
  obtain ⟨cd, hcd⟩ := Option.isSome_iff_exists.mp g1
  rw [hc] at f5
  rw [ha] at f1
  obtain ⟨adr, cls, qual, params, body, scope, file⟩ := e
  dsimp only at *
  subst hp hb
  exact ⟨{ B := B, initId := initId, newId := newId, bmB := bmB, base := base, fI := _, cc := cc, cda := cda, qual := qual, ar := ar, arp := arp, arr := arr, scope := scope, txt := txt, p0 := p0, p1 := p1, p2 := p2, p3 := p3, p4 := p4, p5 := p5, q0 := q0, q1 := q1, q2 := q2, q3 := q3, r0 := r0, r1 := r1, r2 := r2, r3 := r3, ck := ck, kV := kV, doc := doc, pm := pm, ct := ct, an := an, oc := oc, od := od, osl := osl, lk := f1, code := f2, cvs := vs, file := file, tf := tf, ccl := ccl, cdd := cdd, ccs := ccs, lcd := f3, lvs := f4, lfile := lfile, ltop := ltop, cl := cl, cld := cld, csl := csl, lcell := f5, cdC := cd, lC := hcd, sup := sup, scl := scl, sar := sar, sap := sap, sas := sas, kind := kind, co := co, gen := gen, nocell := nocell, bind := fun a b b2 => bind _ _ _ _ _ _ _ a b b2, pl := pl, hev := hev, dist := dist, dis2 := dis2, dis3 := dis3, fg := fg, nods := nods, nodb := nodb, nodp := nodp, mroC := g2, above := He.eqO_ok g3, sub := g4, opq := He.eqO_ok g5, xin := g6, sat := He.eqO_ok g7, over := g8, tak := He.eqO_ok g9, hdC := g10, ini := He.eqO_ok g11, tyI := beq_iff_eq.mp g12, exC := g13, tyC := beq_iff_eq.mp g15, kC := g16, tak2 := He.eqO_ok g17 }, fun u u2 self => bind _ _ _ _ _ _ _ self u u2, fun u u2 self => bindk _ _ _ _ _ _ _ self u u2⟩
def ckErrN (c : Str) (B initId newId : String) (bmB : List Value) : Ck := fun K => PySem.W.excInitIn K (He.ga K c) bmB newId && (He.eqO (PySem.W.findIn K (.ref (He.ga K c)) "__init__") (some (some (.builtin initId))) && PySem.W.keepIn K (.ref (He.ga K c)))
theorem errN_of {K : PySem.W.Frag} {c : Str} {B initId newId : String} {bmB : List Value} (base : BaseF B initId newId bmB) (hC : ckErrN c B initId newId bmB K = true) : ErrN K (He.ga K c) ∧ PySem.W.keepIn K (.ref (He.ga K c)) = true := by
  unfold ckErrN at hC
  rw [Bool.and_eq_true, Bool.and_eq_true] at hC
  exact ⟨⟨B, initId, newId, bmB, base, hC.1, He.eqO_ok hC.2.1⟩, hC.2.2⟩
theorem ErrW.keep {P : Program} {K : PySem.W.Frag} {c f : Str} (h : ErrW P K c f) : PySem.W.keepIn K (.ref (He.ga K c)) = true := h.elim fun E _ => E.kC
theorem ErrW2.keep {P : Program} {K : PySem.W.Frag} {c f g : Str} (h : ErrW2 P K c f g) : PySem.W.keepIn K (.ref (He.ga K c)) = true := h.elim fun E _ => E.kC
theorem ErrW.ne {P : Program} {K : PySem.W.Frag} {c f : Str} (h : ErrW P K c f) : Nonempty (ErrI P K (He.ga K c) f) := h.elim fun E _ => ⟨E⟩
end Z
namespace K19
open PySem PySem.Spec PyProof.Rows L2 Z
def top (i : Nat) : Stmt := PySem.Challenge.pw_lateflushes_k19_errors_made.main.body.getD i (.Pass ⟨0, 0, 0, 0⟩)
abbrev s_law_bag : Stmt := (top 25)
abbrev s_law_take : Stmt := (top 26)
abbrev s_law_of : Stmt := (top 27)
abbrev s_law_things : Stmt := (top 28)
abbrev s_law_values : Stmt := (top 29)
abbrev s_law_named : Stmt := (top 30)
abbrev s_law_kinds : Stmt := (top 31)
abbrev s_law_bases : Stmt := (top 32)
abbrev s_law : Stmt := (top 33)
def csZ : List Str := []
def tsZ : List TD := [.b "NoneType", .b "bool", .b "int", .b "str", .b "tuple", .b "list"]
def kitL : List (TD × TD × Bool) := (.c "BadRow", .c "BadArguments", false) :: (.c "BadRow", .c "BadColumn", false) :: (.c "BadRow", .c "BadCommand", false) :: (.c "BadRow", .c "BadFilter", false) :: (.c "BadRow", .c "BadMend", false) :: (.c "BadRow", .c "BadMode", false) :: (.c "BadRow", .c "BadName", false) :: (.c "BadRow", .c "BadRow", true) :: (.c "BadRow", .c "BadStatement", false) :: (.c "BadRow", .c "BadText", false) :: (.c "BadRow", .c "BadUnique", false) :: (.c "BadRow", .c "BadValue", false) :: (.c "BadRow", .c "KeyTaken", false) :: (.c "BadRow", .b "LookupError", false) :: (.c "BadRow", .c "NoRow", false) :: (.c "BadRow", .c "NotOpen", false) :: (.c "BadRow", .b "OverflowError", false) :: (.c "BadRow", .c "Refused", false) :: (.c "BadRow", .b "RuntimeError", false) :: (.c "BadRow", .c "StillOpen", false) :: (.c "BadRow", .c "Taken", false) :: (.c "BadRow", .c "TooMany", false) :: (.c "BadRow", .c "TooWide", false) :: (.c "BadRow", .c "Twice", false) :: (.c "BadRow", .c "Unbound", false) :: (.c "BadRow", .c "Unlike", false) :: (.c "BadRow", .b "ValueError", true) :: (.c "BadUnique", .c "BadArguments", false) :: (.c "BadUnique", .c "BadColumn", false) :: (.c "BadUnique", .c "BadCommand", false) :: (.c "BadUnique", .c "BadFilter", false) :: (.c "BadUnique", .c "BadMend", false) :: (.c "BadUnique", .c "BadMode", false) :: (.c "BadUnique", .c "BadName", false) :: (.c "BadUnique", .c "BadRow", false) :: (.c "BadUnique", .c "BadStatement", false) :: (.c "BadUnique", .c "BadText", false) :: (.c "BadUnique", .c "BadUnique", true) :: (.c "BadUnique", .c "BadValue", false) :: (.c "BadUnique", .c "KeyTaken", false) :: (.c "BadUnique", .b "LookupError", false) :: (.c "BadUnique", .c "NoRow", false) :: (.c "BadUnique", .c "NotOpen", false) :: (.c "BadUnique", .b "OverflowError", false) :: (.c "BadUnique", .c "Refused", false) :: (.c "BadUnique", .b "RuntimeError", false) :: (.c "BadUnique", .c "StillOpen", false) :: (.c "BadUnique", .c "Taken", false) :: (.c "BadUnique", .c "TooMany", false) :: (.c "BadUnique", .c "TooWide", false) :: (.c "BadUnique", .c "Twice", false) :: (.c "BadUnique", .c "Unbound", false) :: (.c "BadUnique", .c "Unlike", false) :: (.c "BadUnique", .b "ValueError", true) :: (.c "BadColumn", .c "BadArguments", false) :: (.c "BadColumn", .c "BadColumn", true) :: (.c "BadColumn", .c "BadCommand", false) :: (.c "BadColumn", .c "BadFilter", false) :: (.c "BadColumn", .c "BadMend", false) :: (.c "BadColumn", .c "BadMode", false) :: (.c "BadColumn", .c "BadName", false) :: (.c "BadColumn", .c "BadRow", false) :: (.c "BadColumn", .c "BadStatement", false) :: (.c "BadColumn", .c "BadText", false) :: (.c "BadColumn", .c "BadUnique", false) :: (.c "BadColumn", .c "BadValue", false) :: (.c "BadColumn", .c "KeyTaken", false) :: (.c "BadColumn", .b "LookupError", false) :: (.c "BadColumn", .c "NoRow", false) :: (.c "BadColumn", .c "NotOpen", false) :: (.c "BadColumn", .b "OverflowError", false) :: (.c "BadColumn", .c "Refused", false) :: (.c "BadColumn", .b "RuntimeError", false) :: (.c "BadColumn", .c "StillOpen", false) :: (.c "BadColumn", .c "Taken", false) :: (.c "BadColumn", .c "TooMany", false) :: (.c "BadColumn", .c "TooWide", false) :: (.c "BadColumn", .c "Twice", false) :: (.c "BadColumn", .c "Unbound", false) :: (.c "BadColumn", .c "Unlike", false) :: (.c "BadColumn", .b "ValueError", true) :: (.c "BadValue", .c "BadArguments", false) :: (.c "BadValue", .c "BadColumn", false) :: (.c "BadValue", .c "BadCommand", false) :: (.c "BadValue", .c "BadFilter", false) :: (.c "BadValue", .c "BadMend", false) :: (.c "BadValue", .c "BadMode", false) :: (.c "BadValue", .c "BadName", false) :: (.c "BadValue", .c "BadRow", false) :: (.c "BadValue", .c "BadStatement", false) :: (.c "BadValue", .c "BadText", false) :: (.c "BadValue", .c "BadUnique", false) :: (.c "BadValue", .c "BadValue", true) :: (.c "BadValue", .c "KeyTaken", false) :: (.c "BadValue", .b "LookupError", false) :: (.c "BadValue", .c "NoRow", false) :: (.c "BadValue", .c "NotOpen", false) :: (.c "BadValue", .b "OverflowError", false) :: (.c "BadValue", .c "Refused", false) :: (.c "BadValue", .b "RuntimeError", false) :: (.c "BadValue", .c "StillOpen", false) :: (.c "BadValue", .c "Taken", false) :: (.c "BadValue", .c "TooMany", false) :: (.c "BadValue", .c "TooWide", false) :: (.c "BadValue", .c "Twice", false) :: (.c "BadValue", .c "Unbound", false) :: (.c "BadValue", .c "Unlike", false) :: (.c "BadValue", .b "ValueError", true) :: (.c "BadFilter", .c "BadArguments", false) :: (.c "BadFilter", .c "BadColumn", false) :: (.c "BadFilter", .c "BadCommand", false) :: (.c "BadFilter", .c "BadFilter", true) :: (.c "BadFilter", .c "BadMend", false) :: (.c "BadFilter", .c "BadMode", false) :: (.c "BadFilter", .c "BadName", false) :: (.c "BadFilter", .c "BadRow", false) :: (.c "BadFilter", .c "BadStatement", false) :: (.c "BadFilter", .c "BadText", false) :: (.c "BadFilter", .c "BadUnique", false) :: (.c "BadFilter", .c "BadValue", false) :: (.c "BadFilter", .c "KeyTaken", false) :: (.c "BadFilter", .b "LookupError", false) :: (.c "BadFilter", .c "NoRow", false) :: (.c "BadFilter", .c "NotOpen", false) :: (.c "BadFilter", .b "OverflowError", false) :: (.c "BadFilter", .c "Refused", false) :: (.c "BadFilter", .b "RuntimeError", false) :: (.c "BadFilter", .c "StillOpen", false) :: (.c "BadFilter", .c "Taken", false) :: (.c "BadFilter", .c "TooMany", false) :: (.c "BadFilter", .c "TooWide", false) :: (.c "BadFilter", .c "Twice", false) :: (.c "BadFilter", .c "Unbound", false) :: (.c "BadFilter", .c "Unlike", false) :: (.c "BadFilter", .b "ValueError", true) :: (.c "BadMode", .c "BadArguments", false) :: (.c "BadMode", .c "BadColumn", false) :: (.c "BadMode", .c "BadCommand", false) :: (.c "BadMode", .c "BadFilter", false) :: (.c "BadMode", .c "BadMend", false) :: (.c "BadMode", .c "BadMode", true) :: (.c "BadMode", .c "BadName", false) :: (.c "BadMode", .c "BadRow", false) :: (.c "BadMode", .c "BadStatement", false) :: (.c "BadMode", .c "BadText", false) :: (.c "BadMode", .c "BadUnique", false) :: (.c "BadMode", .c "BadValue", false) :: (.c "BadMode", .c "KeyTaken", false) :: (.c "BadMode", .b "LookupError", false) :: (.c "BadMode", .c "NoRow", false) :: (.c "BadMode", .c "NotOpen", false) :: (.c "BadMode", .b "OverflowError", false) :: (.c "BadMode", .c "Refused", false) :: (.c "BadMode", .b "RuntimeError", false) :: (.c "BadMode", .c "StillOpen", false) :: (.c "BadMode", .c "Taken", false) :: (.c "BadMode", .c "TooMany", false) :: (.c "BadMode", .c "TooWide", false) :: (.c "BadMode", .c "Twice", false) :: (.c "BadMode", .c "Unbound", false) :: (.c "BadMode", .c "Unlike", false) :: (.c "BadMode", .b "ValueError", true) :: (.c "BadName", .c "BadArguments", false) :: (.c "BadName", .c "BadColumn", false) :: (.c "BadName", .c "BadCommand", false) :: (.c "BadName", .c "BadFilter", false) :: (.c "BadName", .c "BadMend", false) :: (.c "BadName", .c "BadMode", false) :: (.c "BadName", .c "BadName", true) :: (.c "BadName", .c "BadRow", false) :: (.c "BadName", .c "BadStatement", false) :: (.c "BadName", .c "BadText", false) :: (.c "BadName", .c "BadUnique", false) :: (.c "BadName", .c "BadValue", false) :: (.c "BadName", .c "KeyTaken", false) :: (.c "BadName", .b "LookupError", false) :: (.c "BadName", .c "NoRow", false) :: (.c "BadName", .c "NotOpen", false) :: (.c "BadName", .b "OverflowError", false) :: (.c "BadName", .c "Refused", false) :: (.c "BadName", .b "RuntimeError", false) :: (.c "BadName", .c "StillOpen", false) :: (.c "BadName", .c "Taken", false) :: (.c "BadName", .c "TooMany", false) :: (.c "BadName", .c "TooWide", false) :: (.c "BadName", .c "Twice", false) :: (.c "BadName", .c "Unbound", false) :: (.c "BadName", .c "Unlike", false) :: (.c "BadName", .b "ValueError", true) :: (.c "Twice", .c "BadArguments", false) :: (.c "Twice", .c "BadColumn", false) :: (.c "Twice", .c "BadCommand", false) :: (.c "Twice", .c "BadFilter", false) :: (.c "Twice", .c "BadMend", false) :: (.c "Twice", .c "BadMode", false) :: (.c "Twice", .c "BadName", false) :: (.c "Twice", .c "BadRow", false) :: (.c "Twice", .c "BadStatement", false) :: (.c "Twice", .c "BadText", false) :: (.c "Twice", .c "BadUnique", false) :: (.c "Twice", .c "BadValue", false) :: (.c "Twice", .c "KeyTaken", false) :: (.c "Twice", .b "LookupError", false) :: (.c "Twice", .c "NoRow", false) :: (.c "Twice", .c "NotOpen", false) :: (.c "Twice", .b "OverflowError", false) :: (.c "Twice", .c "Refused", false) :: (.c "Twice", .b "RuntimeError", false) :: (.c "Twice", .c "StillOpen", false) :: (.c "Twice", .c "Taken", false) :: (.c "Twice", .c "TooMany", false) :: (.c "Twice", .c "TooWide", false) :: (.c "Twice", .c "Twice", true) :: (.c "Twice", .c "Unbound", false) :: (.c "Twice", .c "Unlike", false) :: (.c "Twice", .b "ValueError", true) :: (.c "BadStatement", .c "BadArguments", false) :: (.c "BadStatement", .c "BadColumn", false) :: (.c "BadStatement", .c "BadCommand", false) :: (.c "BadStatement", .c "BadFilter", false) :: (.c "BadStatement", .c "BadMend", false) :: (.c "BadStatement", .c "BadMode", false) :: (.c "BadStatement", .c "BadName", false) :: (.c "BadStatement", .c "BadRow", false) :: (.c "BadStatement", .c "BadStatement", true) :: (.c "BadStatement", .c "BadText", false) :: (.c "BadStatement", .c "BadUnique", false) :: (.c "BadStatement", .c "BadValue", false) :: (.c "BadStatement", .c "KeyTaken", false) :: (.c "BadStatement", .b "LookupError", false) :: (.c "BadStatement", .c "NoRow", false) :: (.c "BadStatement", .c "NotOpen", false) :: (.c "BadStatement", .b "OverflowError", false) :: (.c "BadStatement", .c "Refused", false) :: (.c "BadStatement", .b "RuntimeError", false) :: (.c "BadStatement", .c "StillOpen", false) :: (.c "BadStatement", .c "Taken", false) :: (.c "BadStatement", .c "TooMany", false) :: (.c "BadStatement", .c "TooWide", false) :: (.c "BadStatement", .c "Twice", false) :: (.c "BadStatement", .c "Unbound", false) :: (.c "BadStatement", .c "Unlike", false) :: (.c "BadStatement", .b "ValueError", true) :: (.c "BadArguments", .c "BadArguments", true) :: (.c "BadArguments", .c "BadColumn", false) :: (.c "BadArguments", .c "BadCommand", false) :: (.c "BadArguments", .c "BadFilter", false) :: (.c "BadArguments", .c "BadMend", false) :: (.c "BadArguments", .c "BadMode", false) :: (.c "BadArguments", .c "BadName", false) :: (.c "BadArguments", .c "BadRow", false) :: (.c "BadArguments", .c "BadStatement", false) :: (.c "BadArguments", .c "BadText", false) :: (.c "BadArguments", .c "BadUnique", false) :: (.c "BadArguments", .c "BadValue", false) :: (.c "BadArguments", .c "KeyTaken", false) :: (.c "BadArguments", .b "LookupError", false) :: (.c "BadArguments", .c "NoRow", false) :: (.c "BadArguments", .c "NotOpen", false) :: (.c "BadArguments", .b "OverflowError", false) :: (.c "BadArguments", .c "Refused", false) :: (.c "BadArguments", .b "RuntimeError", false) :: (.c "BadArguments", .c "StillOpen", false) :: (.c "BadArguments", .c "Taken", false) :: (.c "BadArguments", .c "TooMany", false) :: (.c "BadArguments", .c "TooWide", false) :: (.c "BadArguments", .c "Twice", false) :: (.c "BadArguments", .c "Unbound", false) :: (.c "BadArguments", .c "Unlike", false) :: (.c "BadArguments", .b "ValueError", true) :: (.c "BadMend", .c "BadArguments", false) :: (.c "BadMend", .c "BadColumn", false) :: (.c "BadMend", .c "BadCommand", false) :: (.c "BadMend", .c "BadFilter", false) :: (.c "BadMend", .c "BadMend", true) :: (.c "BadMend", .c "BadMode", false) :: (.c "BadMend", .c "BadName", false) :: (.c "BadMend", .c "BadRow", false) :: (.c "BadMend", .c "BadStatement", false) :: (.c "BadMend", .c "BadText", false) :: (.c "BadMend", .c "BadUnique", false) :: (.c "BadMend", .c "BadValue", false) :: (.c "BadMend", .c "KeyTaken", false) :: (.c "BadMend", .b "LookupError", false) :: (.c "BadMend", .c "NoRow", false) :: (.c "BadMend", .c "NotOpen", false) :: (.c "BadMend", .b "OverflowError", false) :: (.c "BadMend", .c "Refused", false) :: (.c "BadMend", .b "RuntimeError", false) :: (.c "BadMend", .c "StillOpen", false) :: (.c "BadMend", .c "Taken", false) :: (.c "BadMend", .c "TooMany", false) :: (.c "BadMend", .c "TooWide", false) :: (.c "BadMend", .c "Twice", false) :: (.c "BadMend", .c "Unbound", false) :: (.c "BadMend", .c "Unlike", false) :: (.c "BadMend", .b "ValueError", true) :: (.c "BadText", .c "BadArguments", false) :: (.c "BadText", .c "BadColumn", false) :: (.c "BadText", .c "BadCommand", false) :: (.c "BadText", .c "BadFilter", false) :: (.c "BadText", .c "BadMend", false) :: (.c "BadText", .c "BadMode", false) :: (.c "BadText", .c "BadName", false) :: (.c "BadText", .c "BadRow", false) :: (.c "BadText", .c "BadStatement", false) :: (.c "BadText", .c "BadText", true) :: (.c "BadText", .c "BadUnique", false) :: (.c "BadText", .c "BadValue", false) :: (.c "BadText", .c "KeyTaken", false) :: (.c "BadText", .b "LookupError", false) :: (.c "BadText", .c "NoRow", false) :: (.c "BadText", .c "NotOpen", false) :: (.c "BadText", .b "OverflowError", false) :: (.c "BadText", .c "Refused", false) :: (.c "BadText", .b "RuntimeError", false) :: (.c "BadText", .c "StillOpen", false) :: (.c "BadText", .c "Taken", false) :: (.c "BadText", .c "TooMany", false) :: (.c "BadText", .c "TooWide", false) :: (.c "BadText", .c "Twice", false) :: (.c "BadText", .c "Unbound", false) :: (.c "BadText", .c "Unlike", false) :: (.c "BadText", .b "ValueError", true) :: (.c "BadCommand", .c "BadArguments", false) :: (.c "BadCommand", .c "BadColumn", false) :: (.c "BadCommand", .c "BadCommand", true) :: (.c "BadCommand", .c "BadFilter", false) :: (.c "BadCommand", .c "BadMend", false) :: (.c "BadCommand", .c "BadMode", false) :: (.c "BadCommand", .c "BadName", false) :: (.c "BadCommand", .c "BadRow", false) :: (.c "BadCommand", .c "BadStatement", false) :: (.c "BadCommand", .c "BadText", false) :: (.c "BadCommand", .c "BadUnique", false) :: (.c "BadCommand", .c "BadValue", false) :: (.c "BadCommand", .c "KeyTaken", false) :: (.c "BadCommand", .b "LookupError", false) :: (.c "BadCommand", .c "NoRow", false) :: (.c "BadCommand", .c "NotOpen", false) :: (.c "BadCommand", .b "OverflowError", false) :: (.c "BadCommand", .c "Refused", false) :: (.c "BadCommand", .b "RuntimeError", false) :: (.c "BadCommand", .c "StillOpen", false) :: (.c "BadCommand", .c "Taken", false) :: (.c "BadCommand", .c "TooMany", false) :: (.c "BadCommand", .c "TooWide", false) :: (.c "BadCommand", .c "Twice", false) :: (.c "BadCommand", .c "Unbound", false) :: (.c "BadCommand", .c "Unlike", false) :: (.c "BadCommand", .b "ValueError", true) :: (.c "Unlike", .c "BadArguments", false) :: (.c "Unlike", .c "BadColumn", false) :: (.c "Unlike", .c "BadCommand", false) :: (.c "Unlike", .c "BadFilter", false) :: (.c "Unlike", .c "BadMend", false) :: (.c "Unlike", .c "BadMode", false) :: (.c "Unlike", .c "BadName", false) :: (.c "Unlike", .c "BadRow", false) :: (.c "Unlike", .c "BadStatement", false) :: (.c "Unlike", .c "BadText", false) :: (.c "Unlike", .c "BadUnique", false) :: (.c "Unlike", .c "BadValue", false) :: (.c "Unlike", .c "KeyTaken", false) :: (.c "Unlike", .b "LookupError", false) :: (.c "Unlike", .c "NoRow", false) :: (.c "Unlike", .c "NotOpen", false) :: (.c "Unlike", .b "OverflowError", false) :: (.c "Unlike", .c "Refused", false) :: (.c "Unlike", .b "RuntimeError", false) :: (.c "Unlike", .c "StillOpen", false) :: (.c "Unlike", .c "Taken", false) :: (.c "Unlike", .c "TooMany", false) :: (.c "Unlike", .c "TooWide", false) :: (.c "Unlike", .c "Twice", false) :: (.c "Unlike", .c "Unbound", false) :: (.c "Unlike", .c "Unlike", true) :: (.c "Unlike", .b "ValueError", true) :: (.c "NoRow", .c "BadArguments", false) :: (.c "NoRow", .c "BadColumn", false) :: (.c "NoRow", .c "BadCommand", false) :: (.c "NoRow", .c "BadFilter", false) :: (.c "NoRow", .c "BadMend", false) :: (.c "NoRow", .c "BadMode", false) :: (.c "NoRow", .c "BadName", false) :: (.c "NoRow", .c "BadRow", false) :: (.c "NoRow", .c "BadStatement", false) :: (.c "NoRow", .c "BadText", false) :: (.c "NoRow", .c "BadUnique", false) :: (.c "NoRow", .c "BadValue", false) :: (.c "NoRow", .c "KeyTaken", false) :: (.c "NoRow", .b "LookupError", true) :: (.c "NoRow", .c "NoRow", true) :: (.c "NoRow", .c "NotOpen", false) :: (.c "NoRow", .b "OverflowError", false) :: (.c "NoRow", .c "Refused", false) :: (.c "NoRow", .b "RuntimeError", false) :: (.c "NoRow", .c "StillOpen", false) :: (.c "NoRow", .c "Taken", false) :: (.c "NoRow", .c "TooMany", false) :: (.c "NoRow", .c "TooWide", false) :: (.c "NoRow", .c "Twice", false) :: (.c "NoRow", .c "Unbound", false) :: (.c "NoRow", .c "Unlike", false) :: (.c "NoRow", .b "ValueError", false) :: (.c "Unbound", .c "BadArguments", false) :: (.c "Unbound", .c "BadColumn", false) :: (.c "Unbound", .c "BadCommand", false) :: (.c "Unbound", .c "BadFilter", false) :: (.c "Unbound", .c "BadMend", false) :: (.c "Unbound", .c "BadMode", false) :: (.c "Unbound", .c "BadName", false) :: (.c "Unbound", .c "BadRow", false) :: (.c "Unbound", .c "BadStatement", false) :: (.c "Unbound", .c "BadText", false) :: (.c "Unbound", .c "BadUnique", false) :: (.c "Unbound", .c "BadValue", false) :: (.c "Unbound", .c "KeyTaken", false) :: (.c "Unbound", .b "LookupError", true) :: (.c "Unbound", .c "NoRow", false) :: (.c "Unbound", .c "NotOpen", false) :: (.c "Unbound", .b "OverflowError", false) :: (.c "Unbound", .c "Refused", false) :: (.c "Unbound", .b "RuntimeError", false) :: (.c "Unbound", .c "StillOpen", false) :: (.c "Unbound", .c "Taken", false) :: (.c "Unbound", .c "TooMany", false) :: (.c "Unbound", .c "TooWide", false) :: (.c "Unbound", .c "Twice", false) :: (.c "Unbound", .c "Unbound", true) :: (.c "Unbound", .c "Unlike", false) :: (.c "Unbound", .b "ValueError", false) :: (.c "KeyTaken", .c "BadArguments", false) :: (.c "KeyTaken", .c "BadColumn", false) :: (.c "KeyTaken", .c "BadCommand", false) :: (.c "KeyTaken", .c "BadFilter", false) :: (.c "KeyTaken", .c "BadMend", false) :: (.c "KeyTaken", .c "BadMode", false) :: (.c "KeyTaken", .c "BadName", false) :: (.c "KeyTaken", .c "BadRow", false) :: (.c "KeyTaken", .c "BadStatement", false) :: (.c "KeyTaken", .c "BadText", false) :: (.c "KeyTaken", .c "BadUnique", false) :: (.c "KeyTaken", .c "BadValue", false) :: (.c "KeyTaken", .c "KeyTaken", true) :: (.c "KeyTaken", .b "LookupError", false) :: (.c "KeyTaken", .c "NoRow", false) :: (.c "KeyTaken", .c "NotOpen", false) :: (.c "KeyTaken", .b "OverflowError", false) :: (.c "KeyTaken", .c "Refused", false) :: (.c "KeyTaken", .b "RuntimeError", true) :: (.c "KeyTaken", .c "StillOpen", false) :: (.c "KeyTaken", .c "Taken", false) :: (.c "KeyTaken", .c "TooMany", false) :: (.c "KeyTaken", .c "TooWide", false) :: (.c "KeyTaken", .c "Twice", false) :: (.c "KeyTaken", .c "Unbound", false) :: (.c "KeyTaken", .c "Unlike", false) :: (.c "KeyTaken", .b "ValueError", false) :: (.c "Taken", .c "BadArguments", false) :: (.c "Taken", .c "BadColumn", false) :: (.c "Taken", .c "BadCommand", false) :: (.c "Taken", .c "BadFilter", false) :: (.c "Taken", .c "BadMend", false) :: (.c "Taken", .c "BadMode", false) :: (.c "Taken", .c "BadName", false) :: (.c "Taken", .c "BadRow", false) :: (.c "Taken", .c "BadStatement", false) :: (.c "Taken", .c "BadText", false) :: (.c "Taken", .c "BadUnique", false) :: (.c "Taken", .c "BadValue", false) :: (.c "Taken", .c "KeyTaken", false) :: (.c "Taken", .b "LookupError", false) :: (.c "Taken", .c "NoRow", false) :: (.c "Taken", .c "NotOpen", false) :: (.c "Taken", .b "OverflowError", false) :: (.c "Taken", .c "Refused", false) :: (.c "Taken", .b "RuntimeError", true) :: (.c "Taken", .c "StillOpen", false) :: (.c "Taken", .c "Taken", true) :: (.c "Taken", .c "TooMany", false) :: (.c "Taken", .c "TooWide", false) :: (.c "Taken", .c "Twice", false) :: (.c "Taken", .c "Unbound", false) :: (.c "Taken", .c "Unlike", false) :: (.c "Taken", .b "ValueError", false) :: (.c "Refused", .c "BadArguments", false) :: (.c "Refused", .c "BadColumn", false) :: (.c "Refused", .c "BadCommand", false) :: (.c "Refused", .c "BadFilter", false) :: (.c "Refused", .c "BadMend", false) :: (.c "Refused", .c "BadMode", false) :: (.c "Refused", .c "BadName", false) :: (.c "Refused", .c "BadRow", false) :: (.c "Refused", .c "BadStatement", false) :: (.c "Refused", .c "BadText", false) :: (.c "Refused", .c "BadUnique", false) :: (.c "Refused", .c "BadValue", false) :: (.c "Refused", .c "KeyTaken", false) :: (.c "Refused", .b "LookupError", false) :: (.c "Refused", .c "NoRow", false) :: (.c "Refused", .c "NotOpen", false) :: (.c "Refused", .b "OverflowError", false) :: (.c "Refused", .c "Refused", true) :: (.c "Refused", .b "RuntimeError", true) :: (.c "Refused", .c "StillOpen", false) :: (.c "Refused", .c "Taken", false) :: (.c "Refused", .c "TooMany", false) :: (.c "Refused", .c "TooWide", false) :: (.c "Refused", .c "Twice", false) :: (.c "Refused", .c "Unbound", false) :: (.c "Refused", .c "Unlike", false) :: (.c "Refused", .b "ValueError", false) :: (.c "NotOpen", .c "BadArguments", false) :: (.c "NotOpen", .c "BadColumn", false) :: (.c "NotOpen", .c "BadCommand", false) :: (.c "NotOpen", .c "BadFilter", false) :: (.c "NotOpen", .c "BadMend", false) :: (.c "NotOpen", .c "BadMode", false) :: (.c "NotOpen", .c "BadName", false) :: (.c "NotOpen", .c "BadRow", false) :: (.c "NotOpen", .c "BadStatement", false) :: (.c "NotOpen", .c "BadText", false) :: (.c "NotOpen", .c "BadUnique", false) :: (.c "NotOpen", .c "BadValue", false) :: (.c "NotOpen", .c "KeyTaken", false) :: (.c "NotOpen", .b "LookupError", false) :: (.c "NotOpen", .c "NoRow", false) :: (.c "NotOpen", .c "NotOpen", true) :: (.c "NotOpen", .b "OverflowError", false) :: (.c "NotOpen", .c "Refused", false) :: (.c "NotOpen", .b "RuntimeError", true) :: (.c "NotOpen", .c "StillOpen", false) :: (.c "NotOpen", .c "Taken", false) :: (.c "NotOpen", .c "TooMany", false) :: (.c "NotOpen", .c "TooWide", false) :: (.c "NotOpen", .c "Twice", false) :: (.c "NotOpen", .c "Unbound", false) :: (.c "NotOpen", .c "Unlike", false) :: (.c "NotOpen", .b "ValueError", false) :: (.c "StillOpen", .c "BadArguments", false) :: (.c "StillOpen", .c "BadColumn", false) :: (.c "StillOpen", .c "BadCommand", false) :: (.c "StillOpen", .c "BadFilter", false) :: (.c "StillOpen", .c "BadMend", false) :: (.c "StillOpen", .c "BadMode", false) :: (.c "StillOpen", .c "BadName", false) :: (.c "StillOpen", .c "BadRow", false) :: (.c "StillOpen", .c "BadStatement", false) :: (.c "StillOpen", .c "BadText", false) :: (.c "StillOpen", .c "BadUnique", false) :: (.c "StillOpen", .c "BadValue", false) :: (.c "StillOpen", .c "KeyTaken", false) :: (.c "StillOpen", .b "LookupError", false) :: (.c "StillOpen", .c "NoRow", false) :: (.c "StillOpen", .c "NotOpen", false) :: (.c "StillOpen", .b "OverflowError", false) :: (.c "StillOpen", .c "Refused", false) :: (.c "StillOpen", .b "RuntimeError", true) :: (.c "StillOpen", .c "StillOpen", true) :: (.c "StillOpen", .c "Taken", false) :: (.c "StillOpen", .c "TooMany", false) :: (.c "StillOpen", .c "TooWide", false) :: (.c "StillOpen", .c "Twice", false) :: (.c "StillOpen", .c "Unbound", false) :: (.c "StillOpen", .c "Unlike", false) :: (.c "StillOpen", .b "ValueError", false) :: (.c "TooMany", .c "BadArguments", false) :: (.c "TooMany", .c "BadColumn", false) :: (.c "TooMany", .c "BadCommand", false) :: (.c "TooMany", .c "BadFilter", false) :: (.c "TooMany", .c "BadMend", false) :: (.c "TooMany", .c "BadMode", false) :: (.c "TooMany", .c "BadName", false) :: (.c "TooMany", .c "BadRow", false) :: (.c "TooMany", .c "BadStatement", false) :: (.c "TooMany", .c "BadText", false) :: (.c "TooMany", .c "BadUnique", false) :: (.c "TooMany", .c "BadValue", false) :: (.c "TooMany", .c "KeyTaken", false) :: (.c "TooMany", .b "LookupError", false) :: (.c "TooMany", .c "NoRow", false) :: (.c "TooMany", .c "NotOpen", false) :: (.c "TooMany", .b "OverflowError", true) :: (.c "TooMany", .c "Refused", false) :: (.c "TooMany", .b "RuntimeError", false) :: (.c "TooMany", .c "StillOpen", false) :: (.c "TooMany", .c "Taken", false) :: (.c "TooMany", .c "TooMany", true) :: (.c "TooMany", .c "TooWide", false) :: (.c "TooMany", .c "Twice", false) :: (.c "TooMany", .c "Unbound", false) :: (.c "TooMany", .c "Unlike", false) :: (.c "TooMany", .b "ValueError", false) :: (.c "TooWide", .c "BadArguments", false) :: (.c "TooWide", .c "BadColumn", false) :: (.c "TooWide", .c "BadCommand", false) :: (.c "TooWide", .c "BadFilter", false) :: (.c "TooWide", .c "BadMend", false) :: (.c "TooWide", .c "BadMode", false) :: (.c "TooWide", .c "BadName", false) :: (.c "TooWide", .c "BadRow", false) :: (.c "TooWide", .c "BadStatement", false) :: (.c "TooWide", .c "BadText", false) :: (.c "TooWide", .c "BadUnique", false) :: (.c "TooWide", .c "BadValue", false) :: (.c "TooWide", .c "KeyTaken", false) :: (.c "TooWide", .b "LookupError", false) :: (.c "TooWide", .c "NoRow", false) :: (.c "TooWide", .c "NotOpen", false) :: (.c "TooWide", .b "OverflowError", true) :: (.c "TooWide", .c "Refused", false) :: (.c "TooWide", .b "RuntimeError", false) :: (.c "TooWide", .c "StillOpen", false) :: (.c "TooWide", .c "Taken", false) :: (.c "TooWide", .c "TooMany", false) :: (.c "TooWide", .c "TooWide", true) :: (.c "TooWide", .c "Twice", false) :: (.c "TooWide", .c "Unbound", false) :: (.c "TooWide", .c "Unlike", false) :: (.c "TooWide", .b "ValueError", false) :: []
def esZ : List Str := ["BadRow", "BadUnique", "BadColumn", "BadValue", "BadFilter", "BadMode", "BadName", "Twice", "BadStatement", "BadArguments", "BadMend", "BadText", "BadCommand", "Unlike", "NoRow", "Unbound", "KeyTaken", "Taken", "Refused", "NotOpen", "StillOpen", "TooMany", "TooWide"]
def exL : List (Str × Str × Bool) := []
def fileZ : Str := "/claim/cut.py"
def e0_Twice : EZ := ⟨fun K => He.ma K (He.ga K "Twice") "__init__", fun K => He.ga K "Twice", "Twice.__init__", defArgs (inClass (top 8) 0), defBody (inClass (top 8) 0), defScope (inClass (top 8) 0), fileZ⟩
def e0_BadName : EZ := ⟨fun K => He.ma K (He.ga K "BadName") "__init__", fun K => He.ga K "BadName", "BadName.__init__", defArgs (inClass (top 7) 0), defBody (inClass (top 7) 0), defScope (inClass (top 7) 0), fileZ⟩
def e0_BadMode : EZ := ⟨fun K => He.ma K (He.ga K "BadMode") "__init__", fun K => He.ga K "BadMode", "BadMode.__init__", defArgs (inClass (top 6) 0), defBody (inClass (top 6) 0), defScope (inClass (top 6) 0), fileZ⟩
def e0_BadFilter : EZ := ⟨fun K => He.ma K (He.ga K "BadFilter") "__init__", fun K => He.ga K "BadFilter", "BadFilter.__init__", defArgs (inClass (top 5) 0), defBody (inClass (top 5) 0), defScope (inClass (top 5) 0), fileZ⟩
def e0_BadValue : EZ := ⟨fun K => He.ma K (He.ga K "BadValue") "__init__", fun K => He.ga K "BadValue", "BadValue.__init__", defArgs (inClass (top 4) 0), defBody (inClass (top 4) 0), defScope (inClass (top 4) 0), fileZ⟩
def e0_BadColumn : EZ := ⟨fun K => He.ma K (He.ga K "BadColumn") "__init__", fun K => He.ga K "BadColumn", "BadColumn.__init__", defArgs (inClass (top 3) 0), defBody (inClass (top 3) 0), defScope (inClass (top 3) 0), fileZ⟩
def e0_BadUnique : EZ := ⟨fun K => He.ma K (He.ga K "BadUnique") "__init__", fun K => He.ga K "BadUnique", "BadUnique.__init__", defArgs (inClass (top 2) 0), defBody (inClass (top 2) 0), defScope (inClass (top 2) 0), fileZ⟩
def e0_BadRow : EZ := ⟨fun K => He.ma K (He.ga K "BadRow") "__init__", fun K => He.ga K "BadRow", "BadRow.__init__", defArgs (inClass (top 1) 0), defBody (inClass (top 1) 0), defScope (inClass (top 1) 0), fileZ⟩
def e0_Unlike : EZ := ⟨fun K => He.ma K (He.ga K "Unlike") "__init__", fun K => He.ga K "Unlike", "Unlike.__init__", defArgs (inClass (top 14) 0), defBody (inClass (top 14) 0), defScope (inClass (top 14) 0), fileZ⟩
def e0_BadCommand : EZ := ⟨fun K => He.ma K (He.ga K "BadCommand") "__init__", fun K => He.ga K "BadCommand", "BadCommand.__init__", defArgs (inClass (top 13) 0), defBody (inClass (top 13) 0), defScope (inClass (top 13) 0), fileZ⟩
def e0_BadText : EZ := ⟨fun K => He.ma K (He.ga K "BadText") "__init__", fun K => He.ga K "BadText", "BadText.__init__", defArgs (inClass (top 12) 0), defBody (inClass (top 12) 0), defScope (inClass (top 12) 0), fileZ⟩
def e0_BadMend : EZ := ⟨fun K => He.ma K (He.ga K "BadMend") "__init__", fun K => He.ga K "BadMend", "BadMend.__init__", defArgs (inClass (top 11) 0), defBody (inClass (top 11) 0), defScope (inClass (top 11) 0), fileZ⟩
def e0_BadArguments : EZ := ⟨fun K => He.ma K (He.ga K "BadArguments") "__init__", fun K => He.ga K "BadArguments", "BadArguments.__init__", defArgs (inClass (top 10) 0), defBody (inClass (top 10) 0), defScope (inClass (top 10) 0), fileZ⟩
def e0_BadStatement : EZ := ⟨fun K => He.ma K (He.ga K "BadStatement") "__init__", fun K => He.ga K "BadStatement", "BadStatement.__init__", defArgs (inClass (top 9) 0), defBody (inClass (top 9) 0), defScope (inClass (top 9) 0), fileZ⟩
def e0_Refused : EZ := ⟨fun K => He.ma K (He.ga K "Refused") "__init__", fun K => He.ga K "Refused", "Refused.__init__", defArgs (inClass (top 19) 0), defBody (inClass (top 19) 0), defScope (inClass (top 19) 0), fileZ⟩
def e0_Taken : EZ := ⟨fun K => He.ma K (He.ga K "Taken") "__init__", fun K => He.ga K "Taken", "Taken.__init__", defArgs (inClass (top 18) 0), defBody (inClass (top 18) 0), defScope (inClass (top 18) 0), fileZ⟩
def e0_KeyTaken : EZ := ⟨fun K => He.ma K (He.ga K "KeyTaken") "__init__", fun K => He.ga K "KeyTaken", "KeyTaken.__init__", defArgs (inClass (top 17) 0), defBody (inClass (top 17) 0), defScope (inClass (top 17) 0), fileZ⟩
def e0_Unbound : EZ := ⟨fun K => He.ma K (He.ga K "Unbound") "__init__", fun K => He.ga K "Unbound", "Unbound.__init__", defArgs (inClass (top 16) 0), defBody (inClass (top 16) 0), defScope (inClass (top 16) 0), fileZ⟩
def e0_NoRow : EZ := ⟨fun K => He.ma K (He.ga K "NoRow") "__init__", fun K => He.ga K "NoRow", "NoRow.__init__", defArgs (inClass (top 15) 0), defBody (inClass (top 15) 0), defScope (inClass (top 15) 0), fileZ⟩
def e0_TooWide : EZ := ⟨fun K => He.ma K (He.ga K "TooWide") "__init__", fun K => He.ga K "TooWide", "TooWide.__init__", defArgs (inClass (top 23) 0), defBody (inClass (top 23) 0), defScope (inClass (top 23) 0), fileZ⟩
def e0_TooMany : EZ := ⟨fun K => He.ma K (He.ga K "TooMany") "__init__", fun K => He.ga K "TooMany", "TooMany.__init__", defArgs (inClass (top 22) 0), defBody (inClass (top 22) 0), defScope (inClass (top 22) 0), fileZ⟩
structure FX (P : Program) (K : PySem.W.Frag) (mg : Str → Option Value) : Prop where
  g_law : mg "law" = some (.ref (He.ga K "law"))
  f_len : mg "len" = none
  f_min : mg "min" = none
  f_max : mg "max" = none
  f_range : mg "range" = none
  f_enumerate : mg "enumerate" = none
  f_int : mg "int" = none
  f_abs : mg "abs" = none
  g__law_bag : mg "_law_bag" = some (.ref (He.ga K "_law_bag"))
  g__law_take : mg "_law_take" = some (.ref (He.ga K "_law_take"))
  g__law_of : mg "_law_of" = some (.ref (He.ga K "_law_of"))
  g__law_things : mg "_law_things" = some (.ref (He.ga K "_law_things"))
  g_Twice : mg "Twice" = some (.ref (He.ga K "Twice"))
  f_super : mg "super" = none
  w_Twice : ErrW P K "Twice" "name"
  g_BadName : mg "BadName" = some (.ref (He.ga K "BadName"))
  w_BadName : ErrW P K "BadName" "name"
  g_BadMode : mg "BadMode" = some (.ref (He.ga K "BadMode"))
  w_BadMode : ErrW P K "BadMode" "thing"
  g_BadFilter : mg "BadFilter" = some (.ref (He.ga K "BadFilter"))
  w_BadFilter : ErrW P K "BadFilter" "thing"
  g_BadValue : mg "BadValue" = some (.ref (He.ga K "BadValue"))
  w_BadValue : ErrW P K "BadValue" "value"
  g_BadColumn : mg "BadColumn" = some (.ref (He.ga K "BadColumn"))
  w_BadColumn : ErrW P K "BadColumn" "column"
  g_BadUnique : mg "BadUnique" = some (.ref (He.ga K "BadUnique"))
  w_BadUnique : ErrW P K "BadUnique" "unique"
  g_BadRow : mg "BadRow" = some (.ref (He.ga K "BadRow"))
  w_BadRow : ErrW P K "BadRow" "row"
  g_Unlike : mg "Unlike" = some (.ref (He.ga K "Unlike"))
  w_Unlike : ErrW P K "Unlike" "what"
  g_BadCommand : mg "BadCommand" = some (.ref (He.ga K "BadCommand"))
  w_BadCommand : ErrW P K "BadCommand" "command"
  g_BadText : mg "BadText" = some (.ref (He.ga K "BadText"))
  w_BadText : ErrW P K "BadText" "line"
  g_BadMend : mg "BadMend" = some (.ref (He.ga K "BadMend"))
  w_BadMend : ErrW P K "BadMend" "mend"
  g_BadArguments : mg "BadArguments" = some (.ref (He.ga K "BadArguments"))
  w_BadArguments : ErrW P K "BadArguments" "arguments"
  g_BadStatement : mg "BadStatement" = some (.ref (He.ga K "BadStatement"))
  w_BadStatement : ErrW P K "BadStatement" "place"
  errk : ErrA K esZ
  xf_name : ∀ c ∈ esZ, PySem.W.findIn K (.ref (He.ga K c)) "name" = some none
  xf_thing : ∀ c ∈ esZ, PySem.W.findIn K (.ref (He.ga K c)) "thing" = some none
  xf_value : ∀ c ∈ esZ, PySem.W.findIn K (.ref (He.ga K c)) "value" = some none
  xf_column : ∀ c ∈ esZ, PySem.W.findIn K (.ref (He.ga K c)) "column" = some none
  xf_unique : ∀ c ∈ esZ, PySem.W.findIn K (.ref (He.ga K c)) "unique" = some none
  xf_row : ∀ c ∈ esZ, PySem.W.findIn K (.ref (He.ga K c)) "row" = some none
  xf_command : ∀ c ∈ esZ, PySem.W.findIn K (.ref (He.ga K c)) "command" = some none
  xf_line : ∀ c ∈ esZ, PySem.W.findIn K (.ref (He.ga K c)) "line" = some none
  xf_mend : ∀ c ∈ esZ, PySem.W.findIn K (.ref (He.ga K c)) "mend" = some none
  xf_arguments : ∀ c ∈ esZ, PySem.W.findIn K (.ref (He.ga K c)) "arguments" = some none
  xf_place : ∀ c ∈ esZ, PySem.W.findIn K (.ref (He.ga K c)) "place" = some none
  xf_what : ∀ c ∈ esZ, PySem.W.findIn K (.ref (He.ga K c)) "what" = some none
  g__law_values : mg "_law_values" = some (.ref (He.ga K "_law_values"))
  f_repr : mg "repr" = none
  g_StillOpen : mg "StillOpen" = some (.ref (He.ga K "StillOpen"))
  n_StillOpen : ErrN K (He.ga K "StillOpen") ∧ PySem.W.keepIn K (.ref (He.ga K "StillOpen")) = true
  g_NotOpen : mg "NotOpen" = some (.ref (He.ga K "NotOpen"))
  n_NotOpen : ErrN K (He.ga K "NotOpen") ∧ PySem.W.keepIn K (.ref (He.ga K "NotOpen")) = true
  g_Refused : mg "Refused" = some (.ref (He.ga K "Refused"))
  w_Refused : ErrW2 P K "Refused" "place" "why"
  g_Taken : mg "Taken" = some (.ref (He.ga K "Taken"))
  w_Taken : ErrW P K "Taken" "column"
  g_KeyTaken : mg "KeyTaken" = some (.ref (He.ga K "KeyTaken"))
  w_KeyTaken : ErrW P K "KeyTaken" "key"
  g_Unbound : mg "Unbound" = some (.ref (He.ga K "Unbound"))
  w_Unbound : ErrW P K "Unbound" "name"
  g_NoRow : mg "NoRow" = some (.ref (He.ga K "NoRow"))
  w_NoRow : ErrW P K "NoRow" "key"
  g_TooWide : mg "TooWide" = some (.ref (He.ga K "TooWide"))
  w_TooWide : ErrW P K "TooWide" "limit"
  g_TooMany : mg "TooMany" = some (.ref (He.ga K "TooMany"))
  w_TooMany : ErrW P K "TooMany" "limit"
  xf_limit : ∀ c ∈ esZ, PySem.W.findIn K (.ref (He.ga K c)) "limit" = some none
  xf_key : ∀ c ∈ esZ, PySem.W.findIn K (.ref (He.ga K c)) "key" = some none
  xf_why : ∀ c ∈ esZ, PySem.W.findIn K (.ref (He.ga K c)) "why" = some none
  g__law_named : mg "_law_named" = some (.ref (He.ga K "_law_named"))
  kit : KitOk K (kitT kitL)
  f_isinstance : mg "isinstance" = none
  g__law_kinds : mg "_law_kinds" = some (.ref (He.ga K "_law_kinds"))
  f_OverflowError : mg "OverflowError" = none
  f_RuntimeError : mg "RuntimeError" = none
  f_LookupError : mg "LookupError" = none
  f_ValueError : mg "ValueError" = none
  g__law_bases : mg "_law_bases" = some (.ref (He.ga K "_law_bases"))
def cks : List Ck := [ckGlo "law",
  ckFree "len",
  ckFree "min",
  ckFree "max",
  ckFree "range",
  ckFree "enumerate",
  ckFree "int",
  ckFree "abs",
  ckGlo "_law_bag",
  ckGlo "_law_take",
  ckGlo "_law_of",
  ckGlo "_law_things",
  ckGlo "Twice",
  ckFree "super",
  ckErrC "Twice" "name" "ValueError" "ValueError.__init__" "ValueError.__new__" [.type "ValueError", .type "Exception", .type "BaseException", .type "object"],
  ckGlo "BadName",
  ckErrC "BadName" "name" "ValueError" "ValueError.__init__" "ValueError.__new__" [.type "ValueError", .type "Exception", .type "BaseException", .type "object"],
  ckGlo "BadMode",
  ckErrC "BadMode" "thing" "ValueError" "ValueError.__init__" "ValueError.__new__" [.type "ValueError", .type "Exception", .type "BaseException", .type "object"],
  ckGlo "BadFilter",
  ckErrC "BadFilter" "thing" "ValueError" "ValueError.__init__" "ValueError.__new__" [.type "ValueError", .type "Exception", .type "BaseException", .type "object"],
  ckGlo "BadValue",
  ckErrC "BadValue" "value" "ValueError" "ValueError.__init__" "ValueError.__new__" [.type "ValueError", .type "Exception", .type "BaseException", .type "object"],
  ckGlo "BadColumn",
  ckErrC "BadColumn" "column" "ValueError" "ValueError.__init__" "ValueError.__new__" [.type "ValueError", .type "Exception", .type "BaseException", .type "object"],
  ckGlo "BadUnique",
  ckErrC "BadUnique" "unique" "ValueError" "ValueError.__init__" "ValueError.__new__" [.type "ValueError", .type "Exception", .type "BaseException", .type "object"],
  ckGlo "BadRow",
  ckErrC "BadRow" "row" "ValueError" "ValueError.__init__" "ValueError.__new__" [.type "ValueError", .type "Exception", .type "BaseException", .type "object"],
  ckGlo "Unlike",
  ckErrC "Unlike" "what" "ValueError" "ValueError.__init__" "ValueError.__new__" [.type "ValueError", .type "Exception", .type "BaseException", .type "object"],
  ckGlo "BadCommand",
  ckErrC "BadCommand" "command" "ValueError" "ValueError.__init__" "ValueError.__new__" [.type "ValueError", .type "Exception", .type "BaseException", .type "object"],
  ckGlo "BadText",
  ckErrC "BadText" "line" "ValueError" "ValueError.__init__" "ValueError.__new__" [.type "ValueError", .type "Exception", .type "BaseException", .type "object"],
  ckGlo "BadMend",
  ckErrC "BadMend" "mend" "ValueError" "ValueError.__init__" "ValueError.__new__" [.type "ValueError", .type "Exception", .type "BaseException", .type "object"],
  ckGlo "BadArguments",
  ckErrC "BadArguments" "arguments" "ValueError" "ValueError.__init__" "ValueError.__new__" [.type "ValueError", .type "Exception", .type "BaseException", .type "object"],
  ckGlo "BadStatement",
  ckErrC "BadStatement" "place" "ValueError" "ValueError.__init__" "ValueError.__new__" [.type "ValueError", .type "Exception", .type "BaseException", .type "object"],
  ckErrK esZ,
  ckXfN esZ "name",
  ckXfN esZ "thing",
  ckXfN esZ "value",
  ckXfN esZ "column",
  ckXfN esZ "unique",
  ckXfN esZ "row",
  ckXfN esZ "command",
  ckXfN esZ "line",
  ckXfN esZ "mend",
  ckXfN esZ "arguments",
  ckXfN esZ "place",
  ckXfN esZ "what",
  ckGlo "_law_values",
  ckFree "repr",
  ckGlo "StillOpen",
  ckErrN "StillOpen" "RuntimeError" "RuntimeError.__init__" "RuntimeError.__new__" [.type "RuntimeError", .type "Exception", .type "BaseException", .type "object"],
  ckGlo "NotOpen",
  ckErrN "NotOpen" "RuntimeError" "RuntimeError.__init__" "RuntimeError.__new__" [.type "RuntimeError", .type "Exception", .type "BaseException", .type "object"],
  ckGlo "Refused",
  ckErrC2 "Refused" "place" "why" "RuntimeError" "RuntimeError.__init__" "RuntimeError.__new__" [.type "RuntimeError", .type "Exception", .type "BaseException", .type "object"],
  ckGlo "Taken",
  ckErrC "Taken" "column" "RuntimeError" "RuntimeError.__init__" "RuntimeError.__new__" [.type "RuntimeError", .type "Exception", .type "BaseException", .type "object"],
  ckGlo "KeyTaken",
  ckErrC "KeyTaken" "key" "RuntimeError" "RuntimeError.__init__" "RuntimeError.__new__" [.type "RuntimeError", .type "Exception", .type "BaseException", .type "object"],
  ckGlo "Unbound",
  ckErrC "Unbound" "name" "LookupError" "LookupError.__init__" "LookupError.__new__" [.type "LookupError", .type "Exception", .type "BaseException", .type "object"],
  ckGlo "NoRow",
  ckErrC "NoRow" "key" "LookupError" "LookupError.__init__" "LookupError.__new__" [.type "LookupError", .type "Exception", .type "BaseException", .type "object"],
  ckGlo "TooWide",
  ckErrC "TooWide" "limit" "OverflowError" "OverflowError.__init__" "OverflowError.__new__" [.type "OverflowError", .type "ArithmeticError", .type "Exception", .type "BaseException", .type "object"],
  ckGlo "TooMany",
  ckErrC "TooMany" "limit" "OverflowError" "OverflowError.__init__" "OverflowError.__new__" [.type "OverflowError", .type "ArithmeticError", .type "Exception", .type "BaseException", .type "object"],
  ckXfN esZ "limit",
  ckXfN esZ "key",
  ckXfN esZ "why",
  ckGlo "_law_named",
  ckKit kitL,
  ckFree "isinstance",
  ckGlo "_law_kinds",
  ckFree "OverflowError",
  ckFree "RuntimeError",
  ckFree "LookupError",
  ckFree "ValueError",
  ckGlo "_law_bases"]
def z0_law_bag : DZ := ⟨fun K => (He.ga K "_law_bag"), "_law_bag", "_law_bag", defArgs s_law_bag, defBody s_law_bag, defScope s_law_bag, [], []⟩
def z0_law_take : DZ := ⟨fun K => (He.ga K "_law_take"), "_law_take", "_law_take", defArgs s_law_take, defBody s_law_take, defScope s_law_take, [], []⟩
def z0_law_of : DZ := ⟨fun K => (He.ga K "_law_of"), "_law_of", "_law_of", defArgs s_law_of, defBody s_law_of, defScope s_law_of, [], []⟩
def z0_law_things : DZ := ⟨fun K => (He.ga K "_law_things"), "_law_things", "_law_things", defArgs s_law_things, defBody s_law_things, defScope s_law_things, [], []⟩
def z0_law_values : DZ := ⟨fun K => (He.ga K "_law_values"), "_law_values", "_law_values", defArgs s_law_values, defBody s_law_values, defScope s_law_values, [], []⟩
def z0_law_named : DZ := ⟨fun K => (He.ga K "_law_named"), "_law_named", "_law_named", defArgs s_law_named, defBody s_law_named, defScope s_law_named, [], []⟩
def z0_law_kinds : DZ := ⟨fun K => (He.ga K "_law_kinds"), "_law_kinds", "_law_kinds", defArgs s_law_kinds, defBody s_law_kinds, defScope s_law_kinds, [], []⟩
def z0_law_bases : DZ := ⟨fun K => (He.ga K "_law_bases"), "_law_bases", "_law_bases", defArgs s_law_bases, defBody s_law_bases, defScope s_law_bases, [], []⟩
def z0_law : DZ := ⟨fun K => (He.ga K "law"), "law", "law", defArgs s_law, defBody s_law, defScope s_law, [], []⟩
structure DX (K : PySem.W.Frag) : Prop where
  d_law_bag : ∃ fd, FunD K "_law_bag" "_law_bag" (defArgs s_law_bag) (defBody s_law_bag) (defScope s_law_bag) (DZ.dvs K z0_law_bag) (DZ.kws K z0_law_bag) (He.ga K "_law_bag") fd
  d_law_take : ∃ fd, FunD K "_law_take" "_law_take" (defArgs s_law_take) (defBody s_law_take) (defScope s_law_take) (DZ.dvs K z0_law_take) (DZ.kws K z0_law_take) (He.ga K "_law_take") fd
  d_law_of : ∃ fd, FunD K "_law_of" "_law_of" (defArgs s_law_of) (defBody s_law_of) (defScope s_law_of) (DZ.dvs K z0_law_of) (DZ.kws K z0_law_of) (He.ga K "_law_of") fd
  d_law_things : ∃ fd, FunD K "_law_things" "_law_things" (defArgs s_law_things) (defBody s_law_things) (defScope s_law_things) (DZ.dvs K z0_law_things) (DZ.kws K z0_law_things) (He.ga K "_law_things") fd
  d_law_values : ∃ fd, FunD K "_law_values" "_law_values" (defArgs s_law_values) (defBody s_law_values) (defScope s_law_values) (DZ.dvs K z0_law_values) (DZ.kws K z0_law_values) (He.ga K "_law_values") fd
  d_law_named : ∃ fd, FunD K "_law_named" "_law_named" (defArgs s_law_named) (defBody s_law_named) (defScope s_law_named) (DZ.dvs K z0_law_named) (DZ.kws K z0_law_named) (He.ga K "_law_named") fd
  d_law_kinds : ∃ fd, FunD K "_law_kinds" "_law_kinds" (defArgs s_law_kinds) (defBody s_law_kinds) (defScope s_law_kinds) (DZ.dvs K z0_law_kinds) (DZ.kws K z0_law_kinds) (He.ga K "_law_kinds") fd
  d_law_bases : ∃ fd, FunD K "_law_bases" "_law_bases" (defArgs s_law_bases) (defBody s_law_bases) (defScope s_law_bases) (DZ.dvs K z0_law_bases) (DZ.kws K z0_law_bases) (He.ga K "_law_bases") fd
  d_law : ∃ fd, FunD K "law" "law" (defArgs s_law) (defBody s_law) (defScope s_law) (DZ.dvs K z0_law) (DZ.kws K z0_law) (He.ga K "law") fd
def dzs : List DZ := [z0_law_bag, z0_law_take, z0_law_of, z0_law_things, z0_law_values, z0_law_named, z0_law_kinds, z0_law_bases, z0_law]
def ezs : List EZ := [e0_Twice, e0_BadName, e0_BadMode, e0_BadFilter, e0_BadValue, e0_BadColumn, e0_BadUnique, e0_BadRow, e0_Unlike, e0_BadCommand, e0_BadText, e0_BadMend, e0_BadArguments, e0_BadStatement, e0_Refused, e0_Taken, e0_KeyTaken, e0_Unbound, e0_NoRow, e0_TooWide, e0_TooMany]
theorem fx_of {P : Program} (hP : ProgF P fileZ) {K : PySem.W.Frag} {h : Heap} {mg : Str → Option Value} (X : K.In h) (G : h.Ns mainGlobals mg) (c0 : SaysZ cks dzs ezs K) : FX P K mg := by
  refine ⟨?_, ?_, ?_, ?_, ?_, ?_, ?_, ?_, ?_, ?_, ?_, ?_, ?_, ?_, ?_, ?_, ?_, ?_, ?_, ?_, ?_, ?_, ?_, ?_, ?_, ?_, ?_, ?_, ?_, ?_, ?_, ?_, ?_, ?_, ?_, ?_, ?_, ?_, ?_, ?_, ?_, ?_, ?_, ?_, ?_, ?_, ?_, ?_, ?_, ?_, ?_, ?_, ?_, ?_, ?_, ?_, ?_, ?_, ?_, ?_, ?_, ?_, ?_, ?_, ?_, ?_, ?_, ?_, ?_, ?_, ?_, ?_, ?_, ?_, ?_, ?_, ?_, ?_, ?_, ?_, ?_, ?_, ?_, ?_, ?_, ?_⟩
  · have c := c0.fact 0 (f := ckGlo "law") rfl; exact He.glo_ok X G c
  · have c := c0.fact 1 (f := ckFree "len") rfl; exact He.free_ok X G c
  · have c := c0.fact 2 (f := ckFree "min") rfl; exact He.free_ok X G c
  · have c := c0.fact 3 (f := ckFree "max") rfl; exact He.free_ok X G c
  · have c := c0.fact 4 (f := ckFree "range") rfl; exact He.free_ok X G c
  · have c := c0.fact 5 (f := ckFree "enumerate") rfl; exact He.free_ok X G c
  · have c := c0.fact 6 (f := ckFree "int") rfl; exact He.free_ok X G c
  · have c := c0.fact 7 (f := ckFree "abs") rfl; exact He.free_ok X G c
  · have c := c0.fact 8 (f := ckGlo "_law_bag") rfl; exact He.glo_ok X G c
  · have c := c0.fact 9 (f := ckGlo "_law_take") rfl; exact He.glo_ok X G c
  · have c := c0.fact 10 (f := ckGlo "_law_of") rfl; exact He.glo_ok X G c
  · have c := c0.fact 11 (f := ckGlo "_law_things") rfl; exact He.glo_ok X G c
  · have c := c0.fact 12 (f := ckGlo "Twice") rfl; exact He.glo_ok X G c
  · have c := c0.fact 13 (f := ckFree "super") rfl; exact He.free_ok X G c
  · have c := c0.fact 14 (f := ckErrC "Twice" "name" "ValueError" "ValueError.__init__" "ValueError.__new__" [.type "ValueError", .type "Exception", .type "BaseException", .type "object"]) rfl; exact errW_of (e := e0_Twice) base_ValueError (c0.err_ 0 rfl) c rfl rfl rfl rfl hP.file hP.top rfl rfl rfl rfl rfl rfl rfl (by decide +kernel) (fun _ _ _ _ _ _ _ _ _ => rfl) (fun _ => rfl) (by decide) (by decide) (by decide) (fun _ _ _ _ _ _ _ _ _ => rfl)
  · have c := c0.fact 15 (f := ckGlo "BadName") rfl; exact He.glo_ok X G c
  · have c := c0.fact 16 (f := ckErrC "BadName" "name" "ValueError" "ValueError.__init__" "ValueError.__new__" [.type "ValueError", .type "Exception", .type "BaseException", .type "object"]) rfl; exact errW_of (e := e0_BadName) base_ValueError (c0.err_ 1 rfl) c rfl rfl rfl rfl hP.file hP.top rfl rfl rfl rfl rfl rfl rfl (by decide +kernel) (fun _ _ _ _ _ _ _ _ _ => rfl) (fun _ => rfl) (by decide) (by decide) (by decide) (fun _ _ _ _ _ _ _ _ _ => rfl)
  · have c := c0.fact 17 (f := ckGlo "BadMode") rfl; exact He.glo_ok X G c
  · have c := c0.fact 18 (f := ckErrC "BadMode" "thing" "ValueError" "ValueError.__init__" "ValueError.__new__" [.type "ValueError", .type "Exception", .type "BaseException", .type "object"]) rfl; exact errW_of (e := e0_BadMode) base_ValueError (c0.err_ 2 rfl) c rfl rfl rfl rfl hP.file hP.top rfl rfl rfl rfl rfl rfl rfl (by decide +kernel) (fun _ _ _ _ _ _ _ _ _ => rfl) (fun _ => rfl) (by decide) (by decide) (by decide) (fun _ _ _ _ _ _ _ _ _ => rfl)
  · have c := c0.fact 19 (f := ckGlo "BadFilter") rfl; exact He.glo_ok X G c
  · have c := c0.fact 20 (f := ckErrC "BadFilter" "thing" "ValueError" "ValueError.__init__" "ValueError.__new__" [.type "ValueError", .type "Exception", .type "BaseException", .type "object"]) rfl; exact errW_of (e := e0_BadFilter) base_ValueError (c0.err_ 3 rfl) c rfl rfl rfl rfl hP.file hP.top rfl rfl rfl rfl rfl rfl rfl (by decide +kernel) (fun _ _ _ _ _ _ _ _ _ => rfl) (fun _ => rfl) (by decide) (by decide) (by decide) (fun _ _ _ _ _ _ _ _ _ => rfl)
  · have c := c0.fact 21 (f := ckGlo "BadValue") rfl; exact He.glo_ok X G c
  · have c := c0.fact 22 (f := ckErrC "BadValue" "value" "ValueError" "ValueError.__init__" "ValueError.__new__" [.type "ValueError", .type "Exception", .type "BaseException", .type "object"]) rfl; exact errW_of (e := e0_BadValue) base_ValueError (c0.err_ 4 rfl) c rfl rfl rfl rfl hP.file hP.top rfl rfl rfl rfl rfl rfl rfl (by decide +kernel) (fun _ _ _ _ _ _ _ _ _ => rfl) (fun _ => rfl) (by decide) (by decide) (by decide) (fun _ _ _ _ _ _ _ _ _ => rfl)
  · have c := c0.fact 23 (f := ckGlo "BadColumn") rfl; exact He.glo_ok X G c
  · have c := c0.fact 24 (f := ckErrC "BadColumn" "column" "ValueError" "ValueError.__init__" "ValueError.__new__" [.type "ValueError", .type "Exception", .type "BaseException", .type "object"]) rfl; exact errW_of (e := e0_BadColumn) base_ValueError (c0.err_ 5 rfl) c rfl rfl rfl rfl hP.file hP.top rfl rfl rfl rfl rfl rfl rfl (by decide +kernel) (fun _ _ _ _ _ _ _ _ _ => rfl) (fun _ => rfl) (by decide) (by decide) (by decide) (fun _ _ _ _ _ _ _ _ _ => rfl)
  · have c := c0.fact 25 (f := ckGlo "BadUnique") rfl; exact He.glo_ok X G c
  · have c := c0.fact 26 (f := ckErrC "BadUnique" "unique" "ValueError" "ValueError.__init__" "ValueError.__new__" [.type "ValueError", .type "Exception", .type "BaseException", .type "object"]) rfl; exact errW_of (e := e0_BadUnique) base_ValueError (c0.err_ 6 rfl) c rfl rfl rfl rfl hP.file hP.top rfl rfl rfl rfl rfl rfl rfl (by decide +kernel) (fun _ _ _ _ _ _ _ _ _ => rfl) (fun _ => rfl) (by decide) (by decide) (by decide) (fun _ _ _ _ _ _ _ _ _ => rfl)
  · have c := c0.fact 27 (f := ckGlo "BadRow") rfl; exact He.glo_ok X G c
  · have c := c0.fact 28 (f := ckErrC "BadRow" "row" "ValueError" "ValueError.__init__" "ValueError.__new__" [.type "ValueError", .type "Exception", .type "BaseException", .type "object"]) rfl; exact errW_of (e := e0_BadRow) base_ValueError (c0.err_ 7 rfl) c rfl rfl rfl rfl hP.file hP.top rfl rfl rfl rfl rfl rfl rfl (by decide +kernel) (fun _ _ _ _ _ _ _ _ _ => rfl) (fun _ => rfl) (by decide) (by decide) (by decide) (fun _ _ _ _ _ _ _ _ _ => rfl)
  · have c := c0.fact 29 (f := ckGlo "Unlike") rfl; exact He.glo_ok X G c
  · have c := c0.fact 30 (f := ckErrC "Unlike" "what" "ValueError" "ValueError.__init__" "ValueError.__new__" [.type "ValueError", .type "Exception", .type "BaseException", .type "object"]) rfl; exact errW_of (e := e0_Unlike) base_ValueError (c0.err_ 8 rfl) c rfl rfl rfl rfl hP.file hP.top rfl rfl rfl rfl rfl rfl rfl (by decide +kernel) (fun _ _ _ _ _ _ _ _ _ => rfl) (fun _ => rfl) (by decide) (by decide) (by decide) (fun _ _ _ _ _ _ _ _ _ => rfl)
  · have c := c0.fact 31 (f := ckGlo "BadCommand") rfl; exact He.glo_ok X G c
  · have c := c0.fact 32 (f := ckErrC "BadCommand" "command" "ValueError" "ValueError.__init__" "ValueError.__new__" [.type "ValueError", .type "Exception", .type "BaseException", .type "object"]) rfl; exact errW_of (e := e0_BadCommand) base_ValueError (c0.err_ 9 rfl) c rfl rfl rfl rfl hP.file hP.top rfl rfl rfl rfl rfl rfl rfl (by decide +kernel) (fun _ _ _ _ _ _ _ _ _ => rfl) (fun _ => rfl) (by decide) (by decide) (by decide) (fun _ _ _ _ _ _ _ _ _ => rfl)
  · have c := c0.fact 33 (f := ckGlo "BadText") rfl; exact He.glo_ok X G c
  · have c := c0.fact 34 (f := ckErrC "BadText" "line" "ValueError" "ValueError.__init__" "ValueError.__new__" [.type "ValueError", .type "Exception", .type "BaseException", .type "object"]) rfl; exact errW_of (e := e0_BadText) base_ValueError (c0.err_ 10 rfl) c rfl rfl rfl rfl hP.file hP.top rfl rfl rfl rfl rfl rfl rfl (by decide +kernel) (fun _ _ _ _ _ _ _ _ _ => rfl) (fun _ => rfl) (by decide) (by decide) (by decide) (fun _ _ _ _ _ _ _ _ _ => rfl)
  · have c := c0.fact 35 (f := ckGlo "BadMend") rfl; exact He.glo_ok X G c
  · have c := c0.fact 36 (f := ckErrC "BadMend" "mend" "ValueError" "ValueError.__init__" "ValueError.__new__" [.type "ValueError", .type "Exception", .type "BaseException", .type "object"]) rfl; exact errW_of (e := e0_BadMend) base_ValueError (c0.err_ 11 rfl) c rfl rfl rfl rfl hP.file hP.top rfl rfl rfl rfl rfl rfl rfl (by decide +kernel) (fun _ _ _ _ _ _ _ _ _ => rfl) (fun _ => rfl) (by decide) (by decide) (by decide) (fun _ _ _ _ _ _ _ _ _ => rfl)
  · have c := c0.fact 37 (f := ckGlo "BadArguments") rfl; exact He.glo_ok X G c
  · have c := c0.fact 38 (f := ckErrC "BadArguments" "arguments" "ValueError" "ValueError.__init__" "ValueError.__new__" [.type "ValueError", .type "Exception", .type "BaseException", .type "object"]) rfl; exact errW_of (e := e0_BadArguments) base_ValueError (c0.err_ 12 rfl) c rfl rfl rfl rfl hP.file hP.top rfl rfl rfl rfl rfl rfl rfl (by decide +kernel) (fun _ _ _ _ _ _ _ _ _ => rfl) (fun _ => rfl) (by decide) (by decide) (by decide) (fun _ _ _ _ _ _ _ _ _ => rfl)
  · have c := c0.fact 39 (f := ckGlo "BadStatement") rfl; exact He.glo_ok X G c
  · have c := c0.fact 40 (f := ckErrC "BadStatement" "place" "ValueError" "ValueError.__init__" "ValueError.__new__" [.type "ValueError", .type "Exception", .type "BaseException", .type "object"]) rfl; exact errW_of (e := e0_BadStatement) base_ValueError (c0.err_ 13 rfl) c rfl rfl rfl rfl hP.file hP.top rfl rfl rfl rfl rfl rfl rfl (by decide +kernel) (fun _ _ _ _ _ _ _ _ _ => rfl) (fun _ => rfl) (by decide) (by decide) (by decide) (fun _ _ _ _ _ _ _ _ _ => rfl)
  · have c := c0.fact 41 (f := ckErrK esZ) rfl; exact ckErrK_ok c
  · have c := c0.fact 42 (f := ckXfN esZ "name") rfl; exact ckXfN_ok c
  · have c := c0.fact 43 (f := ckXfN esZ "thing") rfl; exact ckXfN_ok c
  · have c := c0.fact 44 (f := ckXfN esZ "value") rfl; exact ckXfN_ok c
  · have c := c0.fact 45 (f := ckXfN esZ "column") rfl; exact ckXfN_ok c
  · have c := c0.fact 46 (f := ckXfN esZ "unique") rfl; exact ckXfN_ok c
  · have c := c0.fact 47 (f := ckXfN esZ "row") rfl; exact ckXfN_ok c
  · have c := c0.fact 48 (f := ckXfN esZ "command") rfl; exact ckXfN_ok c
  · have c := c0.fact 49 (f := ckXfN esZ "line") rfl; exact ckXfN_ok c
  · have c := c0.fact 50 (f := ckXfN esZ "mend") rfl; exact ckXfN_ok c
  · have c := c0.fact 51 (f := ckXfN esZ "arguments") rfl; exact ckXfN_ok c
  · have c := c0.fact 52 (f := ckXfN esZ "place") rfl; exact ckXfN_ok c
  · have c := c0.fact 53 (f := ckXfN esZ "what") rfl; exact ckXfN_ok c
  · have c := c0.fact 54 (f := ckGlo "_law_values") rfl; exact He.glo_ok X G c
  · have c := c0.fact 55 (f := ckFree "repr") rfl; exact He.free_ok X G c
  · have c := c0.fact 56 (f := ckGlo "StillOpen") rfl; exact He.glo_ok X G c
  · have c := c0.fact 57 (f := ckErrN "StillOpen" "RuntimeError" "RuntimeError.__init__" "RuntimeError.__new__" [.type "RuntimeError", .type "Exception", .type "BaseException", .type "object"]) rfl; exact errN_of base_RuntimeError c
  · have c := c0.fact 58 (f := ckGlo "NotOpen") rfl; exact He.glo_ok X G c
  · have c := c0.fact 59 (f := ckErrN "NotOpen" "RuntimeError" "RuntimeError.__init__" "RuntimeError.__new__" [.type "RuntimeError", .type "Exception", .type "BaseException", .type "object"]) rfl; exact errN_of base_RuntimeError c
  · have c := c0.fact 60 (f := ckGlo "Refused") rfl; exact He.glo_ok X G c
  · have c := c0.fact 61 (f := ckErrC2 "Refused" "place" "why" "RuntimeError" "RuntimeError.__init__" "RuntimeError.__new__" [.type "RuntimeError", .type "Exception", .type "BaseException", .type "object"]) rfl; exact errJ_of (e := e0_Refused) base_RuntimeError (c0.err_ 14 rfl) c rfl rfl rfl rfl hP.file hP.top rfl rfl rfl rfl rfl rfl rfl rfl (by decide +kernel) (fun _ _ _ _ _ _ _ _ _ _ => rfl) (fun _ => rfl) (by decide) (by decide) (by decide) (by decide) (by decide) (by decide) (by decide) (fun _ _ _ _ _ _ _ _ _ _ => rfl)
  · have c := c0.fact 62 (f := ckGlo "Taken") rfl; exact He.glo_ok X G c
  · have c := c0.fact 63 (f := ckErrC "Taken" "column" "RuntimeError" "RuntimeError.__init__" "RuntimeError.__new__" [.type "RuntimeError", .type "Exception", .type "BaseException", .type "object"]) rfl; exact errW_of (e := e0_Taken) base_RuntimeError (c0.err_ 15 rfl) c rfl rfl rfl rfl hP.file hP.top rfl rfl rfl rfl rfl rfl rfl (by decide +kernel) (fun _ _ _ _ _ _ _ _ _ => rfl) (fun _ => rfl) (by decide) (by decide) (by decide) (fun _ _ _ _ _ _ _ _ _ => rfl)
  · have c := c0.fact 64 (f := ckGlo "KeyTaken") rfl; exact He.glo_ok X G c
  · have c := c0.fact 65 (f := ckErrC "KeyTaken" "key" "RuntimeError" "RuntimeError.__init__" "RuntimeError.__new__" [.type "RuntimeError", .type "Exception", .type "BaseException", .type "object"]) rfl; exact errW_of (e := e0_KeyTaken) base_RuntimeError (c0.err_ 16 rfl) c rfl rfl rfl rfl hP.file hP.top rfl rfl rfl rfl rfl rfl rfl (by decide +kernel) (fun _ _ _ _ _ _ _ _ _ => rfl) (fun _ => rfl) (by decide) (by decide) (by decide) (fun _ _ _ _ _ _ _ _ _ => rfl)
  · have c := c0.fact 66 (f := ckGlo "Unbound") rfl; exact He.glo_ok X G c
  · have c := c0.fact 67 (f := ckErrC "Unbound" "name" "LookupError" "LookupError.__init__" "LookupError.__new__" [.type "LookupError", .type "Exception", .type "BaseException", .type "object"]) rfl; exact errW_of (e := e0_Unbound) base_LookupError (c0.err_ 17 rfl) c rfl rfl rfl rfl hP.file hP.top rfl rfl rfl rfl rfl rfl rfl (by decide +kernel) (fun _ _ _ _ _ _ _ _ _ => rfl) (fun _ => rfl) (by decide) (by decide) (by decide) (fun _ _ _ _ _ _ _ _ _ => rfl)
  · have c := c0.fact 68 (f := ckGlo "NoRow") rfl; exact He.glo_ok X G c
  · have c := c0.fact 69 (f := ckErrC "NoRow" "key" "LookupError" "LookupError.__init__" "LookupError.__new__" [.type "LookupError", .type "Exception", .type "BaseException", .type "object"]) rfl; exact errW_of (e := e0_NoRow) base_LookupError (c0.err_ 18 rfl) c rfl rfl rfl rfl hP.file hP.top rfl rfl rfl rfl rfl rfl rfl (by decide +kernel) (fun _ _ _ _ _ _ _ _ _ => rfl) (fun _ => rfl) (by decide) (by decide) (by decide) (fun _ _ _ _ _ _ _ _ _ => rfl)
  · have c := c0.fact 70 (f := ckGlo "TooWide") rfl; exact He.glo_ok X G c
  · have c := c0.fact 71 (f := ckErrC "TooWide" "limit" "OverflowError" "OverflowError.__init__" "OverflowError.__new__" [.type "OverflowError", .type "ArithmeticError", .type "Exception", .type "BaseException", .type "object"]) rfl; exact errW_of (e := e0_TooWide) base_OverflowError (c0.err_ 19 rfl) c rfl rfl rfl rfl hP.file hP.top rfl rfl rfl rfl rfl rfl rfl (by decide +kernel) (fun _ _ _ _ _ _ _ _ _ => rfl) (fun _ => rfl) (by decide) (by decide) (by decide) (fun _ _ _ _ _ _ _ _ _ => rfl)
  · have c := c0.fact 72 (f := ckGlo "TooMany") rfl; exact He.glo_ok X G c
  · have c := c0.fact 73 (f := ckErrC "TooMany" "limit" "OverflowError" "OverflowError.__init__" "OverflowError.__new__" [.type "OverflowError", .type "ArithmeticError", .type "Exception", .type "BaseException", .type "object"]) rfl; exact errW_of (e := e0_TooMany) base_OverflowError (c0.err_ 20 rfl) c rfl rfl rfl rfl hP.file hP.top rfl rfl rfl rfl rfl rfl rfl (by decide +kernel) (fun _ _ _ _ _ _ _ _ _ => rfl) (fun _ => rfl) (by decide) (by decide) (by decide) (fun _ _ _ _ _ _ _ _ _ => rfl)
  · have c := c0.fact 74 (f := ckXfN esZ "limit") rfl; exact ckXfN_ok c
  · have c := c0.fact 75 (f := ckXfN esZ "key") rfl; exact ckXfN_ok c
  · have c := c0.fact 76 (f := ckXfN esZ "why") rfl; exact ckXfN_ok c
  · have c := c0.fact 77 (f := ckGlo "_law_named") rfl; exact He.glo_ok X G c
  · have c := c0.fact 78 (f := ckKit kitL) rfl; exact ckKit_ok c
  · have c := c0.fact 79 (f := ckFree "isinstance") rfl; exact He.free_ok X G c
  · have c := c0.fact 80 (f := ckGlo "_law_kinds") rfl; exact He.glo_ok X G c
  · have c := c0.fact 81 (f := ckFree "OverflowError") rfl; exact He.free_ok X G c
  · have c := c0.fact 82 (f := ckFree "RuntimeError") rfl; exact He.free_ok X G c
  · have c := c0.fact 83 (f := ckFree "LookupError") rfl; exact He.free_ok X G c
  · have c := c0.fact 84 (f := ckFree "ValueError") rfl; exact He.free_ok X G c
  · have c := c0.fact 85 (f := ckGlo "_law_bases") rfl; exact He.glo_ok X G c
theorem dx_of {K : PySem.W.Frag} (c0 : SaysZ cks dzs ezs K) : DX K := ⟨c0.def_ 0 (d := z0_law_bag) rfl, c0.def_ 1 (d := z0_law_take) rfl, c0.def_ 2 (d := z0_law_of) rfl, c0.def_ 3 (d := z0_law_things) rfl, c0.def_ 4 (d := z0_law_values) rfl, c0.def_ 5 (d := z0_law_named) rfl, c0.def_ 6 (d := z0_law_kinds) rfl, c0.def_ 7 (d := z0_law_bases) rfl, c0.def_ 8 (d := z0_law) rfl⟩
theorem kp_law_bag {K : PySem.W.Frag} (Df : DX K) : PySem.W.keepIn K (.ref (He.ga K "_law_bag")) = true := (Df.d_law_bag).elim fun _ F => F.kp
theorem kp_law_take {K : PySem.W.Frag} (Df : DX K) : PySem.W.keepIn K (.ref (He.ga K "_law_take")) = true := (Df.d_law_take).elim fun _ F => F.kp
theorem kp_law_of {K : PySem.W.Frag} (Df : DX K) : PySem.W.keepIn K (.ref (He.ga K "_law_of")) = true := (Df.d_law_of).elim fun _ F => F.kp
theorem kp_law_things {K : PySem.W.Frag} (Df : DX K) : PySem.W.keepIn K (.ref (He.ga K "_law_things")) = true := (Df.d_law_things).elim fun _ F => F.kp
theorem kp_law_values {K : PySem.W.Frag} (Df : DX K) : PySem.W.keepIn K (.ref (He.ga K "_law_values")) = true := (Df.d_law_values).elim fun _ F => F.kp
theorem kp_law_named {K : PySem.W.Frag} (Df : DX K) : PySem.W.keepIn K (.ref (He.ga K "_law_named")) = true := (Df.d_law_named).elim fun _ F => F.kp
theorem kp_law_kinds {K : PySem.W.Frag} (Df : DX K) : PySem.W.keepIn K (.ref (He.ga K "_law_kinds")) = true := (Df.d_law_kinds).elim fun _ F => F.kp
theorem kp_law_bases {K : PySem.W.Frag} (Df : DX K) : PySem.W.keepIn K (.ref (He.ga K "_law_bases")) = true := (Df.d_law_bases).elim fun _ F => F.kp
theorem kp_law {K : PySem.W.Frag} (Df : DX K) : PySem.W.keepIn K (.ref (He.ga K "law")) = true := (Df.d_law).elim fun _ F => F.kp
/-! ### _law_bag -/
def D_law_bag : DS := (dSeq (dAsg 2 (dIf (b2 ltI (dVar 1) (dB lenF (dCons (dVar 0) (fun _ m => some (.ok [], m))))) (d2 ixA (dVar 0) (dVar 1)) (dC (.int 0))))
  (dSeq (dAsg 3 (d2 addA (d2 mulA (dC (.int 1913)) (dVar 1)) (dC (.int 47))))
  (dSeq (dFor (iEnm (dCons (dSl (dVar 0) (fun _ m => some (.ok none, m)) (dPart (dC (.int 60)))) (fun _ m => some (.ok [], m)))) (gTupD (gsCons (gVar 4) (gsCons (gVar 5) gsNil)))
  (dAsg 3 (d2 modI (dB intFn (dCons (d2 addA (d2 addA (d2 addA (d2 mulA (dVar 3) (dC (.int 41177))) (d2 modI (dB intFn (dCons (dVar 5) (fun _ m => some (.ok [], m)))) (dC (.int 2147483563)))) (d2 mulA (dC (.int 57)) (dVar 4))) (dC (.int 5))) (fun _ m => some (.ok [], m)))) (dC (.int 2147483399)))))
  (dRet (dNew (dLst (dCons (dIf (b2 geI (dB absF (dCons (dVar 2) (fun _ m => some (.ok [], m)))) (d2 powI (dC (.int 10)) (dC (.int 18)))) (dB absF (dCons (dVar 2) (fun _ m => some (.ok [], m)))) (dC (.int 0))) (dCons (dVar 3) (fun _ m => some (.ok [], m))))))))))
def B_law_bag : FD := bodyD 6 D_law_bag
theorem sc_law_bag : FnScope ["_law_script", "_law_at", "_law_cell", "_law_mixed", "_law_k", "_law_each"] ["_law_script", "_law_at"] (defScope s_law_bag) := ⟨rfl, rfl, rfl, by decide +kernel, rfl, by decide +kernel, by decide +kernel⟩
theorem ok_law_bag [Kd] {P : Program} {w : World} {K : PySem.W.Frag} {mg : Str → Option Value} {base : Heap} (Xf : FX P K mg) (Df : DX K) {fd : FuncData} (F : FunD K "_law_bag" "_law_bag" (defArgs s_law_bag) (defBody s_law_bag) (defScope s_law_bag) (DZ.dvs K z0_law_bag) (DZ.kws K z0_law_bag) (He.ga K "_law_bag") fd) :
    Z.FnOk P w K mg base (CXk P w) 1 (He.ga K "_law_bag") fd ["_law_script", "_law_at"] (spZ K 2 B_law_bag) := by
  have S := sc_law_bag
  exact body_ok F S fun cdv A outer s H E hr => (sss_cons (ss_set (i := 2) S.nd rfl (.inl rfl) (se_if (st_lt (se_var (i := 1) rfl (.inl rfl)) (se_len rfl Xf.f_len (sa_cons (se_var (i := 0) rfl (.inl rfl)) sa_nil))) (se_ix (se_var (i := 0) rfl (.inl rfl)) (se_var (i := 1) rfl (.inl rfl))) se_int))
  (sss_cons (ss_set (i := 3) S.nd rfl (.inl rfl) (se_add (se_mul se_int (se_var (i := 1) rfl (.inl rfl))) se_int))
  (sss_cons (ss_for (passes_of rfl) rfl (si_enum rfl Xf.f_enumerate (sa_cons (se_slice (se_var (i := 0) rfl (.inl rfl)) so_none (so_some se_int)) sa_nil)) (sg_tup rfl (sgs_cons (sg_name (i := 4) S.nd rfl (.inl rfl)) (sgs_cons (sg_name (i := 5) S.nd rfl (.inl rfl)) sgs_nil)) (gsl_cons (gsl_cons gsl_nil)))
  (sss_one (ss_set (i := 3) S.nd rfl (.inl rfl) (se_mod (se_int1 rfl Xf.f_int (sa_cons (se_add (se_add (se_add (se_mul (se_var (i := 3) rfl (.inl rfl)) se_int) (se_mod (se_int1 rfl Xf.f_int (sa_cons (se_var (i := 5) rfl (.inl rfl)) sa_nil)) se_int)) (se_mul se_int (se_var (i := 4) rfl (.inl rfl)))) se_int) sa_nil)) se_int))))
  (sss_one (ss_ret (se_new (sl_lst (sa_cons (se_if (st_ge (se_abs rfl Xf.f_abs (sa_cons (se_var (i := 2) rfl (.inl rfl)) sa_nil)) (se_pow se_int se_int)) (se_abs rfl Xf.f_abs (sa_cons (se_var (i := 2) rfl (.inl rfl)) sa_nil)) se_int) (sa_cons (se_var (i := 3) rfl (.inl rfl)) sa_nil)))))))))
abbrev G_law_bag : FD := B_law_bag
theorem z_law_bag_2 [Kd] {P : Program} {w : World} {K : PySem.W.Frag} {mg : Str → Option Value} {base : Heap} (Xf : FX P K mg) (Df : DX K) : Fz P w K mg base 1 (He.ga K "_law_bag") 2 [] (fun xs ys => pickL [.a 0, .a 1] xs [] [] ys) G_law_bag := by
  obtain ⟨fd, F⟩ := Df.d_law_bag
  have G0 := ok_law_bag (P := P) (w := w) (base := base) Xf Df F
  exact fz1 F G0 2 [] [.a 0, .a 1] (fun _ _ _ _ _ _ us ws h1 h2 => match us, ws, h1, h2 with | [_, _], [], _, _ => rfl)
def c_law_bag_2 : List Vl → List Vl → Mem → Option (R Vl × Mem) := fun xs ys => G_law_bag ((fun xs ys => pickL [.a 0, .a 1] xs [] [] ys) xs ys)
theorem c_law_bag_2_runs [Kd] {Y : Cx} (Xf : FX Y.prog Y.K Y.mg) (Df : DX Y.K) (hr : Z.Room 1 Y.A) : Z.Runs Y (He.ga Y.K "_law_bag") 2 [] c_law_bag_2 := (z_law_bag_2 Xf Df).runs hr
def h_law_bag_2 : List Vl → List Vl → Mem → Option (R Vl × Mem) := freshG kTop 30 c_law_bag_2
theorem h_law_bag_2_runs [Kd] {Y : Cx} (Xf : FX Y.prog Y.K Y.mg) (Df : DX Y.K) (hr : Z.Room 1 Y.A) : Z.Runs Y (He.ga Y.K "_law_bag") 2 [] h_law_bag_2 := Z.Runs.fresh (c_law_bag_2_runs Xf Df hr) kTop 30
/-! ### _law_take -/
def D_law_take : DS := (dSeq (dIfS (b2 gtI (d2 ixA (dVar 0) (dC (.int 0))) (dC (.int 0)))
  (dSeq (dAsg 2 (d2 modI (dB intFn (dCons (d2 ixA (dVar 0) (dC (.int 0))) (fun _ m => some (.ok [], m)))) (dVar 1)))
  (dSeq (dAsgG (gSetI (dVar 0) (dC (.int 0))) (d2 divI (d2 ixA (dVar 0) (dC (.int 0))) (dVar 1)))
  (dRet (dVar 2))))
  dNil)
  (dSeq (dAsgG (gSetI (dVar 0) (dC (.int 1))) (d2 modI (dB intFn (dCons (d2 addA (d2 mulA (d2 ixA (dVar 0) (dC (.int 1))) (dC (.int 40692))) (dC (.int 70001))) (fun _ m => some (.ok [], m)))) (dC (.int 2147483579))))
  (dRet (d2 modI (d2 divI (d2 modI (dB intFn (dCons (d2 mulA (d2 divI (d2 ixA (dVar 0) (dC (.int 1))) (dC (.int 13))) (dC (.int 52817))) (fun _ m => some (.ok [], m)))) (dC (.int 2147483549))) (dC (.int 64))) (dVar 1)))))
def B_law_take : FD := bodyD 3 D_law_take
theorem sc_law_take : FnScope ["_law_bag_here", "_law_many", "_law_digit"] ["_law_bag_here", "_law_many"] (defScope s_law_take) := ⟨rfl, rfl, rfl, by decide +kernel, rfl, by decide +kernel, by decide +kernel⟩
theorem ok_law_take [Kd] {P : Program} {w : World} {K : PySem.W.Frag} {mg : Str → Option Value} {base : Heap} (Xf : FX P K mg) (Df : DX K) {fd : FuncData} (F : FunD K "_law_take" "_law_take" (defArgs s_law_take) (defBody s_law_take) (defScope s_law_take) (DZ.dvs K z0_law_take) (DZ.kws K z0_law_take) (He.ga K "_law_take") fd) :
    Z.FnOk P w K mg base (CXk P w) 1 (He.ga K "_law_take") fd ["_law_bag_here", "_law_many"] (spZ K 2 B_law_take) := by
  have S := sc_law_take
  exact body_ok F S fun cdv A outer s H E hr => (sss_cons (ss_if (st_gt (se_ix (se_var (i := 0) rfl (.inl rfl)) se_int) se_int)
  (sss_cons (ss_set (i := 2) S.nd rfl (.inl rfl) (se_mod (se_int1 rfl Xf.f_int (sa_cons (se_ix (se_var (i := 0) rfl (.inl rfl)) se_int) sa_nil)) (se_var (i := 1) rfl (.inl rfl))))
  (sss_cons (ss_asg (se_div (se_ix (se_var (i := 0) rfl (.inl rfl)) se_int) (se_var (i := 1) rfl (.inl rfl))) (sg_setI (se_var (i := 0) rfl (.inl rfl)) se_int))
  (sss_one (ss_ret (se_var (i := 2) rfl (.inl rfl))))))
  sss_nil)
  (sss_cons (ss_asg (se_mod (se_int1 rfl Xf.f_int (sa_cons (se_add (se_mul (se_ix (se_var (i := 0) rfl (.inl rfl)) se_int) se_int) se_int) sa_nil)) se_int) (sg_setI (se_var (i := 0) rfl (.inl rfl)) se_int))
  (sss_one (ss_ret (se_mod (se_div (se_mod (se_int1 rfl Xf.f_int (sa_cons (se_mul (se_div (se_ix (se_var (i := 0) rfl (.inl rfl)) se_int) se_int) se_int) sa_nil)) se_int) se_int) (se_var (i := 1) rfl (.inl rfl)))))))
abbrev G_law_take : FD := B_law_take
theorem z_law_take_2 [Kd] {P : Program} {w : World} {K : PySem.W.Frag} {mg : Str → Option Value} {base : Heap} (Xf : FX P K mg) (Df : DX K) : Fz P w K mg base 1 (He.ga K "_law_take") 2 [] (fun xs ys => pickL [.a 0, .a 1] xs [] [] ys) G_law_take := by
  obtain ⟨fd, F⟩ := Df.d_law_take
  have G0 := ok_law_take (P := P) (w := w) (base := base) Xf Df F
  exact fz1 F G0 2 [] [.a 0, .a 1] (fun _ _ _ _ _ _ us ws h1 h2 => match us, ws, h1, h2 with | [_, _], [], _, _ => rfl)
def c_law_take_2 : List Vl → List Vl → Mem → Option (R Vl × Mem) := fun xs ys => G_law_take ((fun xs ys => pickL [.a 0, .a 1] xs [] [] ys) xs ys)
theorem c_law_take_2_runs [Kd] {Y : Cx} (Xf : FX Y.prog Y.K Y.mg) (Df : DX Y.K) (hr : Z.Room 1 Y.A) : Z.Runs Y (He.ga Y.K "_law_take") 2 [] c_law_take_2 := (z_law_take_2 Xf Df).runs hr
/-! ### _law_of -/
def D_law_of : DS := (dRet (d2 ixA (dVar 1) (dCall 2 0 c_law_take_2 (dCons (dVar 0) (dCons (dB lenF (dCons (dVar 1) (fun _ m => some (.ok [], m)))) (fun _ m => some (.ok [], m)))) dNone)))
def B_law_of : FD := bodyD 2 D_law_of
theorem sc_law_of : FnScope ["_law_bag_here", "_law_some"] ["_law_bag_here", "_law_some"] (defScope s_law_of) := ⟨rfl, rfl, rfl, by decide +kernel, rfl, by decide +kernel, by decide +kernel⟩
theorem ok_law_of [Kd] {P : Program} {w : World} {K : PySem.W.Frag} {mg : Str → Option Value} {base : Heap} (Xf : FX P K mg) (Df : DX K) {fd : FuncData} (F : FunD K "_law_of" "_law_of" (defArgs s_law_of) (defBody s_law_of) (defScope s_law_of) (DZ.dvs K z0_law_of) (DZ.kws K z0_law_of) (He.ga K "_law_of") fd) :
    Z.FnOk P w K mg base (CXk P w) 2 (He.ga K "_law_of") fd ["_law_bag_here", "_law_some"] (spZ K 2 B_law_of) := by
  have S := sc_law_of
  exact body_ok F S fun cdv A outer s H E hr => (sss_one (ss_ret (se_ix (se_var (i := 1) rfl (.inl rfl)) (se_call (c_law_take_2_runs Xf Df (hr.mono (by decide : 1 ≤ 1))) (kp_law_take Df) Xf.g__law_take rfl (sa_cons (se_var (i := 0) rfl (.inl rfl)) (sa_cons (se_len rfl Xf.f_len (sa_cons (se_var (i := 1) rfl (.inl rfl)) sa_nil)) sa_nil))))))
abbrev G_law_of : FD := B_law_of
theorem z_law_of_2 [Kd] {P : Program} {w : World} {K : PySem.W.Frag} {mg : Str → Option Value} {base : Heap} (Xf : FX P K mg) (Df : DX K) : Fz P w K mg base 2 (He.ga K "_law_of") 2 [] (fun xs ys => pickL [.a 0, .a 1] xs [] [] ys) G_law_of := by
  obtain ⟨fd, F⟩ := Df.d_law_of
  have G0 := ok_law_of (P := P) (w := w) (base := base) Xf Df F
  exact fz1 F G0 2 [] [.a 0, .a 1] (fun _ _ _ _ _ _ us ws h1 h2 => match us, ws, h1, h2 with | [_, _], [], _, _ => rfl)
def c_law_of_2 : List Vl → List Vl → Mem → Option (R Vl × Mem) := fun xs ys => G_law_of ((fun xs ys => pickL [.a 0, .a 1] xs [] [] ys) xs ys)
theorem c_law_of_2_runs [Kd] {Y : Cx} (Xf : FX Y.prog Y.K Y.mg) (Df : DX Y.K) (hr : Z.Room 2 Y.A) : Z.Runs Y (He.ga Y.K "_law_of") 2 [] c_law_of_2 := (z_law_of_2 Xf Df).runs hr
/-! ### _law_things -/
def D_law_things_0 : DS := (dAsg 1 (dNew (dLst (dCons (dC .non) (dCons (dC (.bl true)) (dCons (dC (.bl false)) (dCons (dC (.int 0)) (dCons (neg1 (dC (.int 1))) (dCons (d2 powI (dC (.int 10)) (dC (.int 19))) (dCons (dC (.str "")) (dCons (dC (.str "a")) (dCons (dC (.str "any text")) (dCons (dTup (fun _ m => some (.ok [], m))) (dCons (dTup (dCons (dC (.int 1)) (dCons (dC (.str "a")) (fun _ m => some (.ok [], m))))) (dCons (dFrz (dLst (fun _ m => some (.ok [], m)))) (dCons (dFrz (dLst (dCons (dFrz (dLst (dCons (dC (.int 1)) (fun _ m => some (.ok [], m))))) (dCons (dTup (dCons (dC (.str "b")) (fun _ m => some (.ok [], m)))) (fun _ m => some (.ok [], m)))))) (dCons (dC (.int 999)) (fun _ m => some (.ok [], m)))))))))))))))))))
def D_law_things_1 : DS := (dAsg 2 (dM "list" (lstM popH) (dVar 1) (dCons (dCall 2 0 c_law_take_2 (dCons (dVar 0) (dCons (dB lenF (dCons (dVar 1) (fun _ m => some (.ok [], m)))) (fun _ m => some (.ok [], m)))) dNone) (fun _ m => some (.ok [], m)))))
def D_law_things_2 : DS := (dRet (dFrz (dLst (dCons (dVar 2) (dCons (dCall 2 0 c_law_of_2 (dCons (dVar 0) (dCons (dVar 1) (fun _ m => some (.ok [], m)))) dNone) (fun _ m => some (.ok [], m)))))))
def D_law_things : DS := (dSeq D_law_things_0
  (dSeq D_law_things_1
  D_law_things_2))
def B_law_things : FD := bodyD 3 D_law_things
theorem sc_law_things : FnScope ["_law_bag_here", "_law_some", "_law_one"] ["_law_bag_here"] (defScope s_law_things) := ⟨rfl, rfl, rfl, by decide +kernel, rfl, by decide +kernel, by decide +kernel⟩
theorem ok_law_things [Kd] {P : Program} {w : World} {K : PySem.W.Frag} {mg : Str → Option Value} {base : Heap} (Xf : FX P K mg) (Df : DX K) {fd : FuncData} (F : FunD K "_law_things" "_law_things" (defArgs s_law_things) (defBody s_law_things) (defScope s_law_things) (DZ.dvs K z0_law_things) (DZ.kws K z0_law_things) (He.ga K "_law_things") fd) :
    Z.FnOk P w K mg base (CXk P w) 3 (He.ga K "_law_things") fd ["_law_bag_here"] (spZ K 1 B_law_things) := by
  have S := sc_law_things
  exact body_ok F S fun cdv A outer s H E hr => (sss_cons (ss_set (i := 1) S.nd rfl (.inl rfl) (se_new (sl_lst (sa_cons se_non (sa_cons se_bl (sa_cons se_bl (sa_cons se_int (sa_cons (se_neg se_int) (sa_cons (se_pow se_int se_int) (sa_cons se_str (sa_cons se_str (sa_cons se_str (sa_cons (se_tup sa_nil) (sa_cons (se_tup (sa_cons se_int (sa_cons se_str sa_nil))) (sa_cons (se_frz (sl_lst sa_nil)) (sa_cons (se_frz (sl_lst (sa_cons (se_frz (sl_lst (sa_cons se_int sa_nil))) (sa_cons (se_tup (sa_cons se_str sa_nil)) sa_nil)))) (sa_cons se_int sa_nil)))))))))))))))))
  (sss_cons (ss_set (i := 2) S.nd rfl (.inl rfl) (se_popAt (se_var (i := 1) rfl (.inl rfl)) (sa_cons (se_call (c_law_take_2_runs Xf Df (hr.mono (by decide : 1 ≤ 2))) (kp_law_take Df) Xf.g__law_take rfl (sa_cons (se_var (i := 0) rfl (.inl rfl)) (sa_cons (se_len rfl Xf.f_len (sa_cons (se_var (i := 1) rfl (.inl rfl)) sa_nil)) sa_nil))) sa_nil)))
  (sss_one (ss_ret (se_frz (sl_lst (sa_cons (se_var (i := 2) rfl (.inl rfl)) (sa_cons (se_call (c_law_of_2_runs Xf Df (hr.mono (by decide : 2 ≤ 2))) (kp_law_of Df) Xf.g__law_of rfl (sa_cons (se_var (i := 0) rfl (.inl rfl)) (sa_cons (se_var (i := 1) rfl (.inl rfl)) sa_nil))) sa_nil))))))))
abbrev G_law_things : FD := B_law_things
theorem z_law_things_1 [Kd] {P : Program} {w : World} {K : PySem.W.Frag} {mg : Str → Option Value} {base : Heap} (Xf : FX P K mg) (Df : DX K) : Fz P w K mg base 3 (He.ga K "_law_things") 1 [] (fun xs ys => pickL [.a 0] xs [] [] ys) G_law_things := by
  obtain ⟨fd, F⟩ := Df.d_law_things
  have G0 := ok_law_things (P := P) (w := w) (base := base) Xf Df F
  exact fz1 F G0 1 [] [.a 0] (fun _ _ _ _ _ _ us ws h1 h2 => match us, ws, h1, h2 with | [_], [], _, _ => rfl)
def c_law_things_1 : List Vl → List Vl → Mem → Option (R Vl × Mem) := fun xs ys => G_law_things ((fun xs ys => pickL [.a 0] xs [] [] ys) xs ys)
theorem c_law_things_1_runs [Kd] {Y : Cx} (Xf : FX Y.prog Y.K Y.mg) (Df : DX Y.K) (hr : Z.Room 3 Y.A) : Z.Runs Y (He.ga Y.K "_law_things") 1 [] c_law_things_1 := (z_law_things_1 Xf Df).runs hr
/-! ### _law_values -/
def D_law_values_0 : DS := (dAsg 1 (dFrz (dLst (dCons (dCall 1 0 (errP "BadRow" "row") (dCons (dVar 0) (fun _ m => some (.ok [], m))) dNone) (dCons (dCall 1 0 (errP "BadUnique" "unique") (dCons (dVar 0) (fun _ m => some (.ok [], m))) dNone) (dCons (dCall 1 0 (errP "BadColumn" "column") (dCons (dVar 0) (fun _ m => some (.ok [], m))) dNone) (dCons (dCall 1 0 (errP "BadValue" "value") (dCons (dVar 0) (fun _ m => some (.ok [], m))) dNone) (dCons (dCall 1 0 (errP "BadFilter" "thing") (dCons (dVar 0) (fun _ m => some (.ok [], m))) dNone) (dCons (dCall 1 0 (errP "BadMode" "thing") (dCons (dVar 0) (fun _ m => some (.ok [], m))) dNone) (dCons (dCall 1 0 (errP "BadName" "name") (dCons (dVar 0) (fun _ m => some (.ok [], m))) dNone) (dCons (dCall 1 0 (errP "Twice" "name") (dCons (dVar 0) (fun _ m => some (.ok [], m))) dNone) (fun _ m => some (.ok [], m)))))))))))))
def D_law_values_1 : DS := (dAsg 1 (d2 addA (dVar 1) (dFrz (dLst (dCons (dCall 1 0 (errP "BadStatement" "place") (dCons (dVar 0) (fun _ m => some (.ok [], m))) dNone) (dCons (dCall 1 0 (errP "BadArguments" "arguments") (dCons (dVar 0) (fun _ m => some (.ok [], m))) dNone) (dCons (dCall 1 0 (errP "BadMend" "mend") (dCons (dVar 0) (fun _ m => some (.ok [], m))) dNone) (dCons (dCall 1 0 (errP "BadText" "line") (dCons (dVar 0) (fun _ m => some (.ok [], m))) dNone) (dCons (dCall 1 0 (errP "BadCommand" "command") (dCons (dVar 0) (fun _ m => some (.ok [], m))) dNone) (dCons (dCall 1 0 (errP "Unlike" "what") (dCons (dVar 0) (fun _ m => some (.ok [], m))) dNone) (fun _ m => some (.ok [], m))))))))))))
def D_law_values_2 : DS := (dAsg 2 (dFrz (dLst (dCons (dXf esZ "row" (d2 ixA (dVar 1) (dC (.int 0)))) (dCons (dXf esZ "unique" (d2 ixA (dVar 1) (dC (.int 1)))) (dCons (dXf esZ "column" (d2 ixA (dVar 1) (dC (.int 2)))) (dCons (dXf esZ "value" (d2 ixA (dVar 1) (dC (.int 3)))) (dCons (dXf esZ "thing" (d2 ixA (dVar 1) (dC (.int 4)))) (dCons (dXf esZ "thing" (d2 ixA (dVar 1) (dC (.int 5)))) (dCons (dXf esZ "name" (d2 ixA (dVar 1) (dC (.int 6)))) (fun _ m => some (.ok [], m))))))))))))
def D_law_values_3 : DS := (dAsg 2 (d2 addA (dVar 2) (dFrz (dLst (dCons (dXf esZ "name" (d2 ixA (dVar 1) (dC (.int 7)))) (dCons (dXf esZ "place" (d2 ixA (dVar 1) (dC (.int 8)))) (dCons (dXf esZ "arguments" (d2 ixA (dVar 1) (dC (.int 9)))) (dCons (dXf esZ "mend" (d2 ixA (dVar 1) (dC (.int 10)))) (dCons (dXf esZ "line" (d2 ixA (dVar 1) (dC (.int 11)))) (dCons (dXf esZ "command" (d2 ixA (dVar 1) (dC (.int 12)))) (fun _ m => some (.ok [], m))))))))))))
def D_law_values_4 : DS := (dRet (dFrz (dLst (dCons (dVar 1) (dCons (d2 addA (dVar 2) (dFrz (dLst (dCons (dXf esZ "what" (d2 ixA (dVar 1) (dC (.int 13)))) (fun _ m => some (.ok [], m)))))) (fun _ m => some (.ok [], m)))))))
def D_law_values : DS := (dSeq D_law_values_0
  (dSeq D_law_values_1
  (dSeq D_law_values_2
  (dSeq D_law_values_3
  D_law_values_4))))
def B_law_values : FD := bodyD 3 D_law_values
theorem sc_law_values : FnScope ["_law_one", "_law_made", "_law_found"] ["_law_one"] (defScope s_law_values) := ⟨rfl, rfl, rfl, by decide +kernel, rfl, by decide +kernel, by decide +kernel⟩
theorem ok_law_values [Kd] {P : Program} {w : World} {K : PySem.W.Frag} {mg : Str → Option Value} {base : Heap} (Xf : FX P K mg) (Df : DX K) {fd : FuncData} (F : FunD K "_law_values" "_law_values" (defArgs s_law_values) (defBody s_law_values) (defScope s_law_values) (DZ.dvs K z0_law_values) (DZ.kws K z0_law_values) (He.ga K "_law_values") fd) :
    Z.FnOk P w K mg base (CXk P w) 2 (He.ga K "_law_values") fd ["_law_one"] (spZ K 1 B_law_values) := by
  have S := sc_law_values
  exact body_ok F S fun cdv A outer s H E hr => (sss_cons (ss_set (i := 1) S.nd rfl (.inl rfl) (se_frz (sl_lst (sa_cons (se_call (errP_runs Xf.w_BadRow rfl Xf.f_super (hr.mono (by decide : 1 ≤ 1))) Xf.w_BadRow.keep Xf.g_BadRow rfl (sa_cons (se_var (i := 0) rfl (.inl rfl)) sa_nil)) (sa_cons (se_call (errP_runs Xf.w_BadUnique rfl Xf.f_super (hr.mono (by decide : 1 ≤ 1))) Xf.w_BadUnique.keep Xf.g_BadUnique rfl (sa_cons (se_var (i := 0) rfl (.inl rfl)) sa_nil)) (sa_cons (se_call (errP_runs Xf.w_BadColumn rfl Xf.f_super (hr.mono (by decide : 1 ≤ 1))) Xf.w_BadColumn.keep Xf.g_BadColumn rfl (sa_cons (se_var (i := 0) rfl (.inl rfl)) sa_nil)) (sa_cons (se_call (errP_runs Xf.w_BadValue rfl Xf.f_super (hr.mono (by decide : 1 ≤ 1))) Xf.w_BadValue.keep Xf.g_BadValue rfl (sa_cons (se_var (i := 0) rfl (.inl rfl)) sa_nil)) (sa_cons (se_call (errP_runs Xf.w_BadFilter rfl Xf.f_super (hr.mono (by decide : 1 ≤ 1))) Xf.w_BadFilter.keep Xf.g_BadFilter rfl (sa_cons (se_var (i := 0) rfl (.inl rfl)) sa_nil)) (sa_cons (se_call (errP_runs Xf.w_BadMode rfl Xf.f_super (hr.mono (by decide : 1 ≤ 1))) Xf.w_BadMode.keep Xf.g_BadMode rfl (sa_cons (se_var (i := 0) rfl (.inl rfl)) sa_nil)) (sa_cons (se_call (errP_runs Xf.w_BadName rfl Xf.f_super (hr.mono (by decide : 1 ≤ 1))) Xf.w_BadName.keep Xf.g_BadName rfl (sa_cons (se_var (i := 0) rfl (.inl rfl)) sa_nil)) (sa_cons (se_call (errP_runs Xf.w_Twice rfl Xf.f_super (hr.mono (by decide : 1 ≤ 1))) Xf.w_Twice.keep Xf.g_Twice rfl (sa_cons (se_var (i := 0) rfl (.inl rfl)) sa_nil)) sa_nil)))))))))))
  (sss_cons (ss_set (i := 1) S.nd rfl (.inl rfl) (se_add (se_var (i := 1) rfl (.inl rfl)) (se_frz (sl_lst (sa_cons (se_call (errP_runs Xf.w_BadStatement rfl Xf.f_super (hr.mono (by decide : 1 ≤ 1))) Xf.w_BadStatement.keep Xf.g_BadStatement rfl (sa_cons (se_var (i := 0) rfl (.inl rfl)) sa_nil)) (sa_cons (se_call (errP_runs Xf.w_BadArguments rfl Xf.f_super (hr.mono (by decide : 1 ≤ 1))) Xf.w_BadArguments.keep Xf.g_BadArguments rfl (sa_cons (se_var (i := 0) rfl (.inl rfl)) sa_nil)) (sa_cons (se_call (errP_runs Xf.w_BadMend rfl Xf.f_super (hr.mono (by decide : 1 ≤ 1))) Xf.w_BadMend.keep Xf.g_BadMend rfl (sa_cons (se_var (i := 0) rfl (.inl rfl)) sa_nil)) (sa_cons (se_call (errP_runs Xf.w_BadText rfl Xf.f_super (hr.mono (by decide : 1 ≤ 1))) Xf.w_BadText.keep Xf.g_BadText rfl (sa_cons (se_var (i := 0) rfl (.inl rfl)) sa_nil)) (sa_cons (se_call (errP_runs Xf.w_BadCommand rfl Xf.f_super (hr.mono (by decide : 1 ≤ 1))) Xf.w_BadCommand.keep Xf.g_BadCommand rfl (sa_cons (se_var (i := 0) rfl (.inl rfl)) sa_nil)) (sa_cons (se_call (errP_runs Xf.w_Unlike rfl Xf.f_super (hr.mono (by decide : 1 ≤ 1))) Xf.w_Unlike.keep Xf.g_Unlike rfl (sa_cons (se_var (i := 0) rfl (.inl rfl)) sa_nil)) sa_nil))))))))))
  (sss_cons (ss_set (i := 2) S.nd rfl (.inl rfl) (se_frz (sl_lst (sa_cons (se_xf (se_ix (se_var (i := 1) rfl (.inl rfl)) se_int) Xf.errk Xf.xf_row) (sa_cons (se_xf (se_ix (se_var (i := 1) rfl (.inl rfl)) se_int) Xf.errk Xf.xf_unique) (sa_cons (se_xf (se_ix (se_var (i := 1) rfl (.inl rfl)) se_int) Xf.errk Xf.xf_column) (sa_cons (se_xf (se_ix (se_var (i := 1) rfl (.inl rfl)) se_int) Xf.errk Xf.xf_value) (sa_cons (se_xf (se_ix (se_var (i := 1) rfl (.inl rfl)) se_int) Xf.errk Xf.xf_thing) (sa_cons (se_xf (se_ix (se_var (i := 1) rfl (.inl rfl)) se_int) Xf.errk Xf.xf_thing) (sa_cons (se_xf (se_ix (se_var (i := 1) rfl (.inl rfl)) se_int) Xf.errk Xf.xf_name) sa_nil))))))))))
  (sss_cons (ss_set (i := 2) S.nd rfl (.inl rfl) (se_add (se_var (i := 2) rfl (.inl rfl)) (se_frz (sl_lst (sa_cons (se_xf (se_ix (se_var (i := 1) rfl (.inl rfl)) se_int) Xf.errk Xf.xf_name) (sa_cons (se_xf (se_ix (se_var (i := 1) rfl (.inl rfl)) se_int) Xf.errk Xf.xf_place) (sa_cons (se_xf (se_ix (se_var (i := 1) rfl (.inl rfl)) se_int) Xf.errk Xf.xf_arguments) (sa_cons (se_xf (se_ix (se_var (i := 1) rfl (.inl rfl)) se_int) Xf.errk Xf.xf_mend) (sa_cons (se_xf (se_ix (se_var (i := 1) rfl (.inl rfl)) se_int) Xf.errk Xf.xf_line) (sa_cons (se_xf (se_ix (se_var (i := 1) rfl (.inl rfl)) se_int) Xf.errk Xf.xf_command) sa_nil))))))))))
  (sss_one (ss_ret (se_frz (sl_lst (sa_cons (se_var (i := 1) rfl (.inl rfl)) (sa_cons (se_add (se_var (i := 2) rfl (.inl rfl)) (se_frz (sl_lst (sa_cons (se_xf (se_ix (se_var (i := 1) rfl (.inl rfl)) se_int) Xf.errk Xf.xf_what) sa_nil)))) sa_nil))))))))))
abbrev G_law_values : FD := B_law_values
theorem z_law_values_1 [Kd] {P : Program} {w : World} {K : PySem.W.Frag} {mg : Str → Option Value} {base : Heap} (Xf : FX P K mg) (Df : DX K) : Fz P w K mg base 2 (He.ga K "_law_values") 1 [] (fun xs ys => pickL [.a 0] xs [] [] ys) G_law_values := by
  obtain ⟨fd, F⟩ := Df.d_law_values
  have G0 := ok_law_values (P := P) (w := w) (base := base) Xf Df F
  exact fz1 F G0 1 [] [.a 0] (fun _ _ _ _ _ _ us ws h1 h2 => match us, ws, h1, h2 with | [_], [], _, _ => rfl)
def c_law_values_1 : List Vl → List Vl → Mem → Option (R Vl × Mem) := fun xs ys => G_law_values ((fun xs ys => pickL [.a 0] xs [] [] ys) xs ys)
theorem c_law_values_1_runs [Kd] {Y : Cx} (Xf : FX Y.prog Y.K Y.mg) (Df : DX Y.K) (hr : Z.Room 2 Y.A) : Z.Runs Y (He.ga Y.K "_law_values") 1 [] c_law_values_1 := (z_law_values_1 Xf Df).runs hr
/-! ### _law_named -/
def D_law_named_0 : DS := (dAsg 1 (dFrz (dLst (dCons (dCall 0 1 (errK "BadRow" "row") dNone (dCons (dVar 0) (fun _ m => some (.ok [], m)))) (dCons (dCall 0 1 (errK "BadUnique" "unique") dNone (dCons (dVar 0) (fun _ m => some (.ok [], m)))) (dCons (dCall 0 1 (errK "BadColumn" "column") dNone (dCons (dVar 0) (fun _ m => some (.ok [], m)))) (dCons (dCall 0 1 (errK "BadValue" "value") dNone (dCons (dVar 0) (fun _ m => some (.ok [], m)))) (dCons (dCall 0 1 (errK "BadFilter" "thing") dNone (dCons (dVar 0) (fun _ m => some (.ok [], m)))) (fun _ m => some (.ok [], m))))))))))
def D_law_named_1 : DS := (dAsg 1 (d2 addA (dVar 1) (dFrz (dLst (dCons (dCall 0 1 (errK "BadMode" "thing") dNone (dCons (dVar 0) (fun _ m => some (.ok [], m)))) (dCons (dCall 0 1 (errK "BadName" "name") dNone (dCons (dVar 0) (fun _ m => some (.ok [], m)))) (dCons (dCall 0 1 (errK "Twice" "name") dNone (dCons (dVar 0) (fun _ m => some (.ok [], m)))) (dCons (dCall 0 1 (errK "BadStatement" "place") dNone (dCons (dVar 0) (fun _ m => some (.ok [], m)))) (dCons (dCall 0 1 (errK "BadArguments" "arguments") dNone (dCons (dVar 0) (fun _ m => some (.ok [], m)))) (fun _ m => some (.ok [], m)))))))))))
def D_law_named_2 : DS := (dAsg 2 (dFrz (dLst (dCons (dXf esZ "row" (d2 ixA (dVar 1) (dC (.int 0)))) (dCons (dXf esZ "unique" (d2 ixA (dVar 1) (dC (.int 1)))) (dCons (dXf esZ "column" (d2 ixA (dVar 1) (dC (.int 2)))) (dCons (dXf esZ "value" (d2 ixA (dVar 1) (dC (.int 3)))) (dCons (dXf esZ "thing" (d2 ixA (dVar 1) (dC (.int 4)))) (dCons (dXf esZ "thing" (d2 ixA (dVar 1) (dC (.int 5)))) (dCons (dXf esZ "name" (d2 ixA (dVar 1) (dC (.int 6)))) (fun _ m => some (.ok [], m))))))))))))
def D_law_named_3 : DS := (dAsg 2 (d2 addA (dVar 2) (dFrz (dLst (dCons (dXf esZ "name" (d2 ixA (dVar 1) (dC (.int 7)))) (dCons (dXf esZ "place" (d2 ixA (dVar 1) (dC (.int 8)))) (dCons (dXf esZ "arguments" (d2 ixA (dVar 1) (dC (.int 9)))) (fun _ m => some (.ok [], m)))))))))
def D_law_named_4 : DS := (dAsg 3 (dFrz (dLst (dCons (dCall 0 1 (errK "BadMend" "mend") dNone (dCons (dVar 0) (fun _ m => some (.ok [], m)))) (dCons (dCall 0 1 (errK "BadText" "line") dNone (dCons (dVar 0) (fun _ m => some (.ok [], m)))) (dCons (dCall 0 1 (errK "BadCommand" "command") dNone (dCons (dVar 0) (fun _ m => some (.ok [], m)))) (dCons (dCall 0 1 (errK "Unlike" "what") dNone (dCons (dVar 0) (fun _ m => some (.ok [], m)))) (dCons (dCall 0 1 (errK "NoRow" "key") dNone (dCons (dVar 0) (fun _ m => some (.ok [], m)))) (dCons (dCall 0 1 (errK "Unbound" "name") dNone (dCons (dVar 0) (fun _ m => some (.ok [], m)))) (fun _ m => some (.ok [], m)))))))))))
def D_law_named_5 : DS := (dAsg 2 (d2 addA (dVar 2) (dFrz (dLst (dCons (dXf esZ "mend" (d2 ixA (dVar 3) (dC (.int 0)))) (dCons (dXf esZ "line" (d2 ixA (dVar 3) (dC (.int 1)))) (dCons (dXf esZ "command" (d2 ixA (dVar 3) (dC (.int 2)))) (dCons (dXf esZ "what" (d2 ixA (dVar 3) (dC (.int 3)))) (dCons (dXf esZ "key" (d2 ixA (dVar 3) (dC (.int 4)))) (dCons (dXf esZ "name" (d2 ixA (dVar 3) (dC (.int 5)))) (fun _ m => some (.ok [], m))))))))))))
def D_law_named_6 : DS := (dAsg 3 (d2 addA (dVar 3) (dFrz (dLst (dCons (dCall 0 1 (errK "KeyTaken" "key") dNone (dCons (dVar 0) (fun _ m => some (.ok [], m)))) (dCons (dCall 0 1 (errK "Taken" "column") dNone (dCons (dVar 0) (fun _ m => some (.ok [], m)))) (dCons (dCall 0 1 (errK "TooMany" "limit") dNone (dCons (dVar 0) (fun _ m => some (.ok [], m)))) (dCons (dCall 0 1 (errK "TooWide" "limit") dNone (dCons (dVar 0) (fun _ m => some (.ok [], m)))) (fun _ m => some (.ok [], m))))))))))
def D_law_named_7 : DS := (dRet (dFrz (dLst (dCons (d2 addA (dVar 1) (dVar 3)) (dCons (d2 addA (dVar 2) (dFrz (dLst (dCons (dXf esZ "key" (d2 ixA (dVar 3) (dC (.int 6)))) (dCons (dXf esZ "column" (d2 ixA (dVar 3) (dC (.int 7)))) (dCons (dXf esZ "limit" (d2 ixA (dVar 3) (dC (.int 8)))) (dCons (dXf esZ "limit" (d2 ixA (dVar 3) (dC (.int 9)))) (fun _ m => some (.ok [], m))))))))) (fun _ m => some (.ok [], m)))))))
def D_law_named : DS := (dSeq D_law_named_0
  (dSeq D_law_named_1
  (dSeq D_law_named_2
  (dSeq D_law_named_3
  (dSeq D_law_named_4
  (dSeq D_law_named_5
  (dSeq D_law_named_6
  D_law_named_7)))))))
def B_law_named : FD := bodyD 4 D_law_named
theorem sc_law_named : FnScope ["_law_one", "_law_made", "_law_found", "_law_more"] ["_law_one"] (defScope s_law_named) := ⟨rfl, rfl, rfl, by decide +kernel, rfl, by decide +kernel, by decide +kernel⟩
theorem ok_law_named [Kd] {P : Program} {w : World} {K : PySem.W.Frag} {mg : Str → Option Value} {base : Heap} (Xf : FX P K mg) (Df : DX K) {fd : FuncData} (F : FunD K "_law_named" "_law_named" (defArgs s_law_named) (defBody s_law_named) (defScope s_law_named) (DZ.dvs K z0_law_named) (DZ.kws K z0_law_named) (He.ga K "_law_named") fd) :
    Z.FnOk P w K mg base (CXk P w) 2 (He.ga K "_law_named") fd ["_law_one"] (spZ K 1 B_law_named) := by
  have S := sc_law_named
  exact body_ok F S fun cdv A outer s H E hr => (sss_cons (ss_set (i := 1) S.nd rfl (.inl rfl) (se_frz (sl_lst (sa_cons (se_callK0 (errK_runs Xf.w_BadRow rfl Xf.f_super (hr.mono (by decide : 1 ≤ 1))) Xf.w_BadRow.keep Xf.g_BadRow rfl (sk_cons (se_var (i := 0) rfl (.inl rfl)) sk_nil)) (sa_cons (se_callK0 (errK_runs Xf.w_BadUnique rfl Xf.f_super (hr.mono (by decide : 1 ≤ 1))) Xf.w_BadUnique.keep Xf.g_BadUnique rfl (sk_cons (se_var (i := 0) rfl (.inl rfl)) sk_nil)) (sa_cons (se_callK0 (errK_runs Xf.w_BadColumn rfl Xf.f_super (hr.mono (by decide : 1 ≤ 1))) Xf.w_BadColumn.keep Xf.g_BadColumn rfl (sk_cons (se_var (i := 0) rfl (.inl rfl)) sk_nil)) (sa_cons (se_callK0 (errK_runs Xf.w_BadValue rfl Xf.f_super (hr.mono (by decide : 1 ≤ 1))) Xf.w_BadValue.keep Xf.g_BadValue rfl (sk_cons (se_var (i := 0) rfl (.inl rfl)) sk_nil)) (sa_cons (se_callK0 (errK_runs Xf.w_BadFilter rfl Xf.f_super (hr.mono (by decide : 1 ≤ 1))) Xf.w_BadFilter.keep Xf.g_BadFilter rfl (sk_cons (se_var (i := 0) rfl (.inl rfl)) sk_nil)) sa_nil))))))))
  (sss_cons (ss_set (i := 1) S.nd rfl (.inl rfl) (se_add (se_var (i := 1) rfl (.inl rfl)) (se_frz (sl_lst (sa_cons (se_callK0 (errK_runs Xf.w_BadMode rfl Xf.f_super (hr.mono (by decide : 1 ≤ 1))) Xf.w_BadMode.keep Xf.g_BadMode rfl (sk_cons (se_var (i := 0) rfl (.inl rfl)) sk_nil)) (sa_cons (se_callK0 (errK_runs Xf.w_BadName rfl Xf.f_super (hr.mono (by decide : 1 ≤ 1))) Xf.w_BadName.keep Xf.g_BadName rfl (sk_cons (se_var (i := 0) rfl (.inl rfl)) sk_nil)) (sa_cons (se_callK0 (errK_runs Xf.w_Twice rfl Xf.f_super (hr.mono (by decide : 1 ≤ 1))) Xf.w_Twice.keep Xf.g_Twice rfl (sk_cons (se_var (i := 0) rfl (.inl rfl)) sk_nil)) (sa_cons (se_callK0 (errK_runs Xf.w_BadStatement rfl Xf.f_super (hr.mono (by decide : 1 ≤ 1))) Xf.w_BadStatement.keep Xf.g_BadStatement rfl (sk_cons (se_var (i := 0) rfl (.inl rfl)) sk_nil)) (sa_cons (se_callK0 (errK_runs Xf.w_BadArguments rfl Xf.f_super (hr.mono (by decide : 1 ≤ 1))) Xf.w_BadArguments.keep Xf.g_BadArguments rfl (sk_cons (se_var (i := 0) rfl (.inl rfl)) sk_nil)) sa_nil)))))))))
  (sss_cons (ss_set (i := 2) S.nd rfl (.inl rfl) (se_frz (sl_lst (sa_cons (se_xf (se_ix (se_var (i := 1) rfl (.inl rfl)) se_int) Xf.errk Xf.xf_row) (sa_cons (se_xf (se_ix (se_var (i := 1) rfl (.inl rfl)) se_int) Xf.errk Xf.xf_unique) (sa_cons (se_xf (se_ix (se_var (i := 1) rfl (.inl rfl)) se_int) Xf.errk Xf.xf_column) (sa_cons (se_xf (se_ix (se_var (i := 1) rfl (.inl rfl)) se_int) Xf.errk Xf.xf_value) (sa_cons (se_xf (se_ix (se_var (i := 1) rfl (.inl rfl)) se_int) Xf.errk Xf.xf_thing) (sa_cons (se_xf (se_ix (se_var (i := 1) rfl (.inl rfl)) se_int) Xf.errk Xf.xf_thing) (sa_cons (se_xf (se_ix (se_var (i := 1) rfl (.inl rfl)) se_int) Xf.errk Xf.xf_name) sa_nil))))))))))
  (sss_cons (ss_set (i := 2) S.nd rfl (.inl rfl) (se_add (se_var (i := 2) rfl (.inl rfl)) (se_frz (sl_lst (sa_cons (se_xf (se_ix (se_var (i := 1) rfl (.inl rfl)) se_int) Xf.errk Xf.xf_name) (sa_cons (se_xf (se_ix (se_var (i := 1) rfl (.inl rfl)) se_int) Xf.errk Xf.xf_place) (sa_cons (se_xf (se_ix (se_var (i := 1) rfl (.inl rfl)) se_int) Xf.errk Xf.xf_arguments) sa_nil)))))))
  (sss_cons (ss_set (i := 3) S.nd rfl (.inl rfl) (se_frz (sl_lst (sa_cons (se_callK0 (errK_runs Xf.w_BadMend rfl Xf.f_super (hr.mono (by decide : 1 ≤ 1))) Xf.w_BadMend.keep Xf.g_BadMend rfl (sk_cons (se_var (i := 0) rfl (.inl rfl)) sk_nil)) (sa_cons (se_callK0 (errK_runs Xf.w_BadText rfl Xf.f_super (hr.mono (by decide : 1 ≤ 1))) Xf.w_BadText.keep Xf.g_BadText rfl (sk_cons (se_var (i := 0) rfl (.inl rfl)) sk_nil)) (sa_cons (se_callK0 (errK_runs Xf.w_BadCommand rfl Xf.f_super (hr.mono (by decide : 1 ≤ 1))) Xf.w_BadCommand.keep Xf.g_BadCommand rfl (sk_cons (se_var (i := 0) rfl (.inl rfl)) sk_nil)) (sa_cons (se_callK0 (errK_runs Xf.w_Unlike rfl Xf.f_super (hr.mono (by decide : 1 ≤ 1))) Xf.w_Unlike.keep Xf.g_Unlike rfl (sk_cons (se_var (i := 0) rfl (.inl rfl)) sk_nil)) (sa_cons (se_callK0 (errK_runs Xf.w_NoRow rfl Xf.f_super (hr.mono (by decide : 1 ≤ 1))) Xf.w_NoRow.keep Xf.g_NoRow rfl (sk_cons (se_var (i := 0) rfl (.inl rfl)) sk_nil)) (sa_cons (se_callK0 (errK_runs Xf.w_Unbound rfl Xf.f_super (hr.mono (by decide : 1 ≤ 1))) Xf.w_Unbound.keep Xf.g_Unbound rfl (sk_cons (se_var (i := 0) rfl (.inl rfl)) sk_nil)) sa_nil)))))))))
  (sss_cons (ss_set (i := 2) S.nd rfl (.inl rfl) (se_add (se_var (i := 2) rfl (.inl rfl)) (se_frz (sl_lst (sa_cons (se_xf (se_ix (se_var (i := 3) rfl (.inl rfl)) se_int) Xf.errk Xf.xf_mend) (sa_cons (se_xf (se_ix (se_var (i := 3) rfl (.inl rfl)) se_int) Xf.errk Xf.xf_line) (sa_cons (se_xf (se_ix (se_var (i := 3) rfl (.inl rfl)) se_int) Xf.errk Xf.xf_command) (sa_cons (se_xf (se_ix (se_var (i := 3) rfl (.inl rfl)) se_int) Xf.errk Xf.xf_what) (sa_cons (se_xf (se_ix (se_var (i := 3) rfl (.inl rfl)) se_int) Xf.errk Xf.xf_key) (sa_cons (se_xf (se_ix (se_var (i := 3) rfl (.inl rfl)) se_int) Xf.errk Xf.xf_name) sa_nil))))))))))
  (sss_cons (ss_set (i := 3) S.nd rfl (.inl rfl) (se_add (se_var (i := 3) rfl (.inl rfl)) (se_frz (sl_lst (sa_cons (se_callK0 (errK_runs Xf.w_KeyTaken rfl Xf.f_super (hr.mono (by decide : 1 ≤ 1))) Xf.w_KeyTaken.keep Xf.g_KeyTaken rfl (sk_cons (se_var (i := 0) rfl (.inl rfl)) sk_nil)) (sa_cons (se_callK0 (errK_runs Xf.w_Taken rfl Xf.f_super (hr.mono (by decide : 1 ≤ 1))) Xf.w_Taken.keep Xf.g_Taken rfl (sk_cons (se_var (i := 0) rfl (.inl rfl)) sk_nil)) (sa_cons (se_callK0 (errK_runs Xf.w_TooMany rfl Xf.f_super (hr.mono (by decide : 1 ≤ 1))) Xf.w_TooMany.keep Xf.g_TooMany rfl (sk_cons (se_var (i := 0) rfl (.inl rfl)) sk_nil)) (sa_cons (se_callK0 (errK_runs Xf.w_TooWide rfl Xf.f_super (hr.mono (by decide : 1 ≤ 1))) Xf.w_TooWide.keep Xf.g_TooWide rfl (sk_cons (se_var (i := 0) rfl (.inl rfl)) sk_nil)) sa_nil))))))))
  (sss_one (ss_ret (se_frz (sl_lst (sa_cons (se_add (se_var (i := 1) rfl (.inl rfl)) (se_var (i := 3) rfl (.inl rfl))) (sa_cons (se_add (se_var (i := 2) rfl (.inl rfl)) (se_frz (sl_lst (sa_cons (se_xf (se_ix (se_var (i := 3) rfl (.inl rfl)) se_int) Xf.errk Xf.xf_key) (sa_cons (se_xf (se_ix (se_var (i := 3) rfl (.inl rfl)) se_int) Xf.errk Xf.xf_column) (sa_cons (se_xf (se_ix (se_var (i := 3) rfl (.inl rfl)) se_int) Xf.errk Xf.xf_limit) (sa_cons (se_xf (se_ix (se_var (i := 3) rfl (.inl rfl)) se_int) Xf.errk Xf.xf_limit) sa_nil))))))) sa_nil)))))))))))))
abbrev G_law_named : FD := B_law_named
theorem z_law_named_1 [Kd] {P : Program} {w : World} {K : PySem.W.Frag} {mg : Str → Option Value} {base : Heap} (Xf : FX P K mg) (Df : DX K) : Fz P w K mg base 2 (He.ga K "_law_named") 1 [] (fun xs ys => pickL [.a 0] xs [] [] ys) G_law_named := by
  obtain ⟨fd, F⟩ := Df.d_law_named
  have G0 := ok_law_named (P := P) (w := w) (base := base) Xf Df F
  exact fz1 F G0 1 [] [.a 0] (fun _ _ _ _ _ _ us ws h1 h2 => match us, ws, h1, h2 with | [_], [], _, _ => rfl)
def c_law_named_1 : List Vl → List Vl → Mem → Option (R Vl × Mem) := fun xs ys => G_law_named ((fun xs ys => pickL [.a 0] xs [] [] ys) xs ys)
theorem c_law_named_1_runs [Kd] {Y : Cx} (Xf : FX Y.prog Y.K Y.mg) (Df : DX Y.K) (hr : Z.Room 2 Y.A) : Z.Runs Y (He.ga Y.K "_law_named") 1 [] c_law_named_1 := (z_law_named_1 Xf Df).runs hr
/-! ### _law_kinds -/
def D_law_kinds_0 : DS := (dAsg 1 (dFrz (dLst (dCons (dIsE esZ (kitT kitL) (dVar 0) (dC (.glo "BadRow"))) (dCons (dIsE esZ (kitT kitL) (dVar 0) (dC (.glo "BadUnique"))) (dCons (dIsE esZ (kitT kitL) (dVar 0) (dC (.glo "BadColumn"))) (dCons (dIsE esZ (kitT kitL) (dVar 0) (dC (.glo "BadValue"))) (fun _ m => some (.ok [], m)))))))))
def D_law_kinds_1 : DS := (dAsg 1 (d2 addA (dVar 1) (dFrz (dLst (dCons (dIsE esZ (kitT kitL) (dVar 0) (dC (.glo "BadFilter"))) (dCons (dIsE esZ (kitT kitL) (dVar 0) (dC (.glo "BadMode"))) (dCons (dIsE esZ (kitT kitL) (dVar 0) (dC (.glo "BadName"))) (dCons (dIsE esZ (kitT kitL) (dVar 0) (dC (.glo "Twice"))) (fun _ m => some (.ok [], m))))))))))
def D_law_kinds_2 : DS := (dAsg 1 (d2 addA (dVar 1) (dFrz (dLst (dCons (dIsE esZ (kitT kitL) (dVar 0) (dC (.glo "BadStatement"))) (dCons (dIsE esZ (kitT kitL) (dVar 0) (dC (.glo "BadArguments"))) (dCons (dIsE esZ (kitT kitL) (dVar 0) (dC (.glo "BadMend"))) (fun _ m => some (.ok [], m)))))))))
def D_law_kinds_3 : DS := (dAsg 1 (d2 addA (dVar 1) (dFrz (dLst (dCons (dIsE esZ (kitT kitL) (dVar 0) (dC (.glo "BadText"))) (dCons (dIsE esZ (kitT kitL) (dVar 0) (dC (.glo "BadCommand"))) (dCons (dIsE esZ (kitT kitL) (dVar 0) (dC (.glo "Unlike"))) (dCons (dIsE esZ (kitT kitL) (dVar 0) (dC (.glo "NoRow"))) (fun _ m => some (.ok [], m))))))))))
def D_law_kinds_4 : DS := (dAsg 1 (d2 addA (dVar 1) (dFrz (dLst (dCons (dIsE esZ (kitT kitL) (dVar 0) (dC (.glo "Unbound"))) (dCons (dIsE esZ (kitT kitL) (dVar 0) (dC (.glo "KeyTaken"))) (dCons (dIsE esZ (kitT kitL) (dVar 0) (dC (.glo "Taken"))) (dCons (dIsE esZ (kitT kitL) (dVar 0) (dC (.glo "Refused"))) (fun _ m => some (.ok [], m))))))))))
def D_law_kinds_5 : DS := (dAsg 1 (d2 addA (dVar 1) (dFrz (dLst (dCons (dIsE esZ (kitT kitL) (dVar 0) (dC (.glo "NotOpen"))) (dCons (dIsE esZ (kitT kitL) (dVar 0) (dC (.glo "StillOpen"))) (dCons (dIsE esZ (kitT kitL) (dVar 0) (dC (.glo "TooMany"))) (dCons (dIsE esZ (kitT kitL) (dVar 0) (dC (.glo "TooWide"))) (fun _ m => some (.ok [], m))))))))))
def D_law_kinds_6 : DS := (dRet (dVar 1))
def D_law_kinds : DS := (dSeq D_law_kinds_0
  (dSeq D_law_kinds_1
  (dSeq D_law_kinds_2
  (dSeq D_law_kinds_3
  (dSeq D_law_kinds_4
  (dSeq D_law_kinds_5
  D_law_kinds_6))))))
def B_law_kinds : FD := bodyD 2 D_law_kinds
theorem sc_law_kinds : FnScope ["_law_one", "_law_found"] ["_law_one"] (defScope s_law_kinds) := ⟨rfl, rfl, rfl, by decide +kernel, rfl, by decide +kernel, by decide +kernel⟩
theorem ok_law_kinds [Kd] {P : Program} {w : World} {K : PySem.W.Frag} {mg : Str → Option Value} {base : Heap} (Xf : FX P K mg) (Df : DX K) {fd : FuncData} (F : FunD K "_law_kinds" "_law_kinds" (defArgs s_law_kinds) (defBody s_law_kinds) (defScope s_law_kinds) (DZ.dvs K z0_law_kinds) (DZ.kws K z0_law_kinds) (He.ga K "_law_kinds") fd) :
    Z.FnOk P w K mg base (CXk P w) 1 (He.ga K "_law_kinds") fd ["_law_one"] (spZ K 1 B_law_kinds) := by
  have S := sc_law_kinds
  exact body_ok F S fun cdv A outer s H E hr => (sss_cons (ss_set (i := 1) S.nd rfl (.inl rfl) (se_frz (sl_lst (sa_cons (se_isE Xf.errk Xf.kit rfl Xf.f_isinstance (se_var (i := 0) rfl (.inl rfl)) (se_glo rfl Xf.g_BadRow)) (sa_cons (se_isE Xf.errk Xf.kit rfl Xf.f_isinstance (se_var (i := 0) rfl (.inl rfl)) (se_glo rfl Xf.g_BadUnique)) (sa_cons (se_isE Xf.errk Xf.kit rfl Xf.f_isinstance (se_var (i := 0) rfl (.inl rfl)) (se_glo rfl Xf.g_BadColumn)) (sa_cons (se_isE Xf.errk Xf.kit rfl Xf.f_isinstance (se_var (i := 0) rfl (.inl rfl)) (se_glo rfl Xf.g_BadValue)) sa_nil)))))))
  (sss_cons (ss_set (i := 1) S.nd rfl (.inl rfl) (se_add (se_var (i := 1) rfl (.inl rfl)) (se_frz (sl_lst (sa_cons (se_isE Xf.errk Xf.kit rfl Xf.f_isinstance (se_var (i := 0) rfl (.inl rfl)) (se_glo rfl Xf.g_BadFilter)) (sa_cons (se_isE Xf.errk Xf.kit rfl Xf.f_isinstance (se_var (i := 0) rfl (.inl rfl)) (se_glo rfl Xf.g_BadMode)) (sa_cons (se_isE Xf.errk Xf.kit rfl Xf.f_isinstance (se_var (i := 0) rfl (.inl rfl)) (se_glo rfl Xf.g_BadName)) (sa_cons (se_isE Xf.errk Xf.kit rfl Xf.f_isinstance (se_var (i := 0) rfl (.inl rfl)) (se_glo rfl Xf.g_Twice)) sa_nil))))))))
  (sss_cons (ss_set (i := 1) S.nd rfl (.inl rfl) (se_add (se_var (i := 1) rfl (.inl rfl)) (se_frz (sl_lst (sa_cons (se_isE Xf.errk Xf.kit rfl Xf.f_isinstance (se_var (i := 0) rfl (.inl rfl)) (se_glo rfl Xf.g_BadStatement)) (sa_cons (se_isE Xf.errk Xf.kit rfl Xf.f_isinstance (se_var (i := 0) rfl (.inl rfl)) (se_glo rfl Xf.g_BadArguments)) (sa_cons (se_isE Xf.errk Xf.kit rfl Xf.f_isinstance (se_var (i := 0) rfl (.inl rfl)) (se_glo rfl Xf.g_BadMend)) sa_nil)))))))
  (sss_cons (ss_set (i := 1) S.nd rfl (.inl rfl) (se_add (se_var (i := 1) rfl (.inl rfl)) (se_frz (sl_lst (sa_cons (se_isE Xf.errk Xf.kit rfl Xf.f_isinstance (se_var (i := 0) rfl (.inl rfl)) (se_glo rfl Xf.g_BadText)) (sa_cons (se_isE Xf.errk Xf.kit rfl Xf.f_isinstance (se_var (i := 0) rfl (.inl rfl)) (se_glo rfl Xf.g_BadCommand)) (sa_cons (se_isE Xf.errk Xf.kit rfl Xf.f_isinstance (se_var (i := 0) rfl (.inl rfl)) (se_glo rfl Xf.g_Unlike)) (sa_cons (se_isE Xf.errk Xf.kit rfl Xf.f_isinstance (se_var (i := 0) rfl (.inl rfl)) (se_glo rfl Xf.g_NoRow)) sa_nil))))))))
  (sss_cons (ss_set (i := 1) S.nd rfl (.inl rfl) (se_add (se_var (i := 1) rfl (.inl rfl)) (se_frz (sl_lst (sa_cons (se_isE Xf.errk Xf.kit rfl Xf.f_isinstance (se_var (i := 0) rfl (.inl rfl)) (se_glo rfl Xf.g_Unbound)) (sa_cons (se_isE Xf.errk Xf.kit rfl Xf.f_isinstance (se_var (i := 0) rfl (.inl rfl)) (se_glo rfl Xf.g_KeyTaken)) (sa_cons (se_isE Xf.errk Xf.kit rfl Xf.f_isinstance (se_var (i := 0) rfl (.inl rfl)) (se_glo rfl Xf.g_Taken)) (sa_cons (se_isE Xf.errk Xf.kit rfl Xf.f_isinstance (se_var (i := 0) rfl (.inl rfl)) (se_glo rfl Xf.g_Refused)) sa_nil))))))))
  (sss_cons (ss_set (i := 1) S.nd rfl (.inl rfl) (se_add (se_var (i := 1) rfl (.inl rfl)) (se_frz (sl_lst (sa_cons (se_isE Xf.errk Xf.kit rfl Xf.f_isinstance (se_var (i := 0) rfl (.inl rfl)) (se_glo rfl Xf.g_NotOpen)) (sa_cons (se_isE Xf.errk Xf.kit rfl Xf.f_isinstance (se_var (i := 0) rfl (.inl rfl)) (se_glo rfl Xf.g_StillOpen)) (sa_cons (se_isE Xf.errk Xf.kit rfl Xf.f_isinstance (se_var (i := 0) rfl (.inl rfl)) (se_glo rfl Xf.g_TooMany)) (sa_cons (se_isE Xf.errk Xf.kit rfl Xf.f_isinstance (se_var (i := 0) rfl (.inl rfl)) (se_glo rfl Xf.g_TooWide)) sa_nil))))))))
  (sss_one (ss_ret (se_var (i := 1) rfl (.inl rfl))))))))))
abbrev G_law_kinds : FD := B_law_kinds
theorem z_law_kinds_1 [Kd] {P : Program} {w : World} {K : PySem.W.Frag} {mg : Str → Option Value} {base : Heap} (Xf : FX P K mg) (Df : DX K) : Fz P w K mg base 1 (He.ga K "_law_kinds") 1 [] (fun xs ys => pickL [.a 0] xs [] [] ys) G_law_kinds := by
  obtain ⟨fd, F⟩ := Df.d_law_kinds
  have G0 := ok_law_kinds (P := P) (w := w) (base := base) Xf Df F
  exact fz1 F G0 1 [] [.a 0] (fun _ _ _ _ _ _ us ws h1 h2 => match us, ws, h1, h2 with | [_], [], _, _ => rfl)
def c_law_kinds_1 : List Vl → List Vl → Mem → Option (R Vl × Mem) := fun xs ys => G_law_kinds ((fun xs ys => pickL [.a 0] xs [] [] ys) xs ys)
theorem c_law_kinds_1_runs [Kd] {Y : Cx} (Xf : FX Y.prog Y.K Y.mg) (Df : DX Y.K) (hr : Z.Room 1 Y.A) : Z.Runs Y (He.ga Y.K "_law_kinds") 1 [] c_law_kinds_1 := (z_law_kinds_1 Xf Df).runs hr
/-! ### _law_bases -/
def D_law_bases : DS := (dRet (dFrz (dLst (dCons (dIsE esZ (kitT kitL) (dVar 0) (dC (.ty "ValueError"))) (dCons (dIsE esZ (kitT kitL) (dVar 0) (dC (.ty "LookupError"))) (dCons (dIsE esZ (kitT kitL) (dVar 0) (dC (.ty "RuntimeError"))) (dCons (dIsE esZ (kitT kitL) (dVar 0) (dC (.ty "OverflowError"))) (fun _ m => some (.ok [], m)))))))))
def B_law_bases : FD := bodyD 1 D_law_bases
theorem sc_law_bases : FnScope ["_law_one"] ["_law_one"] (defScope s_law_bases) := ⟨rfl, rfl, rfl, by decide +kernel, rfl, by decide +kernel, by decide +kernel⟩
theorem ok_law_bases [Kd] {P : Program} {w : World} {K : PySem.W.Frag} {mg : Str → Option Value} {base : Heap} (Xf : FX P K mg) (Df : DX K) {fd : FuncData} (F : FunD K "_law_bases" "_law_bases" (defArgs s_law_bases) (defBody s_law_bases) (defScope s_law_bases) (DZ.dvs K z0_law_bases) (DZ.kws K z0_law_bases) (He.ga K "_law_bases") fd) :
    Z.FnOk P w K mg base (CXk P w) 1 (He.ga K "_law_bases") fd ["_law_one"] (spZ K 1 B_law_bases) := by
  have S := sc_law_bases
  exact body_ok F S fun cdv A outer s H E hr => (sss_one (ss_ret (se_frz (sl_lst (sa_cons (se_isE Xf.errk Xf.kit rfl Xf.f_isinstance (se_var (i := 0) rfl (.inl rfl)) (se_ty rfl Xf.f_ValueError (by decide +kernel))) (sa_cons (se_isE Xf.errk Xf.kit rfl Xf.f_isinstance (se_var (i := 0) rfl (.inl rfl)) (se_ty rfl Xf.f_LookupError (by decide +kernel))) (sa_cons (se_isE Xf.errk Xf.kit rfl Xf.f_isinstance (se_var (i := 0) rfl (.inl rfl)) (se_ty rfl Xf.f_RuntimeError (by decide +kernel))) (sa_cons (se_isE Xf.errk Xf.kit rfl Xf.f_isinstance (se_var (i := 0) rfl (.inl rfl)) (se_ty rfl Xf.f_OverflowError (by decide +kernel))) sa_nil))))))))
abbrev G_law_bases : FD := B_law_bases
theorem z_law_bases_1 [Kd] {P : Program} {w : World} {K : PySem.W.Frag} {mg : Str → Option Value} {base : Heap} (Xf : FX P K mg) (Df : DX K) : Fz P w K mg base 1 (He.ga K "_law_bases") 1 [] (fun xs ys => pickL [.a 0] xs [] [] ys) G_law_bases := by
  obtain ⟨fd, F⟩ := Df.d_law_bases
  have G0 := ok_law_bases (P := P) (w := w) (base := base) Xf Df F
  exact fz1 F G0 1 [] [.a 0] (fun _ _ _ _ _ _ us ws h1 h2 => match us, ws, h1, h2 with | [_], [], _, _ => rfl)
def c_law_bases_1 : List Vl → List Vl → Mem → Option (R Vl × Mem) := fun xs ys => G_law_bases ((fun xs ys => pickL [.a 0] xs [] [] ys) xs ys)
theorem c_law_bases_1_runs [Kd] {Y : Cx} (Xf : FX Y.prog Y.K Y.mg) (Df : DX Y.K) (hr : Z.Room 1 Y.A) : Z.Runs Y (He.ga Y.K "_law_bases") 1 [] c_law_bases_1 := (z_law_bases_1 Xf Df).runs hr
/-! ### law -/
def D_law_0_0 : DS := (dAsg 2 (dCall 2 0 h_law_bag_2 (dCons (dVar 0) (dCons (dVar 1) (fun _ m => some (.ok [], m)))) dNone))
def D_law_0_1 : DS := (dAsgG (gLstD (gsCons (gVar 6) (gsCons (gVar 7) gsNil))) (dCall 1 0 c_law_things_1 (dCons (dVar 2) (fun _ m => some (.ok [], m))) dNone))
def D_law_0_2 : DS := (dAsgG (gLstD (gsCons (gVar 8) (gsCons (gVar 9) gsNil))) (dCall 1 0 c_law_values_1 (dCons (dVar 6) (fun _ m => some (.ok [], m))) dNone))
def D_law_0_3 : DS := (dAsgG (gLstD (gsCons (gVar 10) (gsCons (gVar 11) gsNil))) (dCall 1 0 c_law_values_1 (dCons (dVar 7) (fun _ m => some (.ok [], m))) dNone))
def D_law_0_4_0 : DS := (dRet (dC (.bl false)))
def D_law_0_4 : DS := (dIfS (tOr2 (b2 neF (dB reprF (dCons (dVar 9) (fun _ m => some (.ok [], m)))) (dB reprF (dCons (d2 mulA (dFrz (dLst (dCons (dVar 6) (fun _ m => some (.ok [], m))))) (dC (.int 14))) (fun _ m => some (.ok [], m))))) (b2 neF (dB reprF (dCons (dVar 11) (fun _ m => some (.ok [], m)))) (dB reprF (dCons (d2 mulA (dFrz (dLst (dCons (dVar 7) (fun _ m => some (.ok [], m))))) (dC (.int 14))) (fun _ m => some (.ok [], m))))))
  D_law_0_4_0
  dNil)
def D_law_0_5 : DS := (dAsg 3 (dFrz (dLst (dCons (dCall 1 0 (errP "NoRow" "key") (dCons (dVar 6) (fun _ m => some (.ok [], m))) dNone) (dCons (dCall 1 0 (errP "Unbound" "name") (dCons (dVar 6) (fun _ m => some (.ok [], m))) dNone) (dCons (dCall 1 0 (errP "KeyTaken" "key") (dCons (dVar 6) (fun _ m => some (.ok [], m))) dNone) (dCons (dCall 1 0 (errP "Taken" "column") (dCons (dVar 6) (fun _ m => some (.ok [], m))) dNone) (dCons (dCall 2 0 (errP2 "Refused" "place" "why") (dCons (dVar 6) (dCons (dVar 7) (fun _ m => some (.ok [], m)))) dNone) (dCons (dCall 0 0 (err0 "NotOpen") dNone dNone) (dCons (dCall 0 0 (err0 "StillOpen") dNone dNone) (fun _ m => some (.ok [], m))))))))))))
def D_law_0_6 : DS := (dAsg 3 (d2 addA (dVar 3) (dFrz (dLst (dCons (dCall 1 0 (errP "TooMany" "limit") (dCons (dVar 6) (fun _ m => some (.ok [], m))) dNone) (dCons (dCall 1 0 (errP "TooWide" "limit") (dCons (dVar 6) (fun _ m => some (.ok [], m))) dNone) (fun _ m => some (.ok [], m))))))))
def D_law_0_7_0 : DS := (dRet (dC (.bl false)))
def D_law_0_7 : DS := (dIfS (b2 neF (dB reprF (dCons (dFrz (dLst (dCons (dXf esZ "key" (d2 ixA (dVar 3) (dC (.int 0)))) (dCons (dXf esZ "name" (d2 ixA (dVar 3) (dC (.int 1)))) (dCons (dXf esZ "key" (d2 ixA (dVar 3) (dC (.int 2)))) (dCons (dXf esZ "column" (d2 ixA (dVar 3) (dC (.int 3)))) (dCons (dXf esZ "limit" (d2 ixA (dVar 3) (dC (.int 7)))) (dCons (dXf esZ "limit" (d2 ixA (dVar 3) (dC (.int 8)))) (fun _ m => some (.ok [], m)))))))))) (fun _ m => some (.ok [], m)))) (dB reprF (dCons (d2 mulA (dFrz (dLst (dCons (dVar 6) (fun _ m => some (.ok [], m))))) (dC (.int 6))) (fun _ m => some (.ok [], m)))))
  D_law_0_7_0
  dNil)
def D_law_0_8 : DS := (dAsg 4 (dCall 0 2 (errK2 "Refused" "place" "why") dNone (dCons (dVar 6) (dCons (dVar 7) (fun _ m => some (.ok [], m))))))
def D_law_0_9_0 : DS := (dRet (dC (.bl false)))
def D_law_0_9 : DS := (dIfS (b2 neF (dB reprF (dCons (dFrz (dLst (dCons (dXf esZ "place" (d2 ixA (dVar 3) (dC (.int 4)))) (dCons (dXf esZ "why" (d2 ixA (dVar 3) (dC (.int 4)))) (dCons (dXf esZ "place" (dVar 4)) (dCons (dXf esZ "why" (dVar 4)) (fun _ m => some (.ok [], m)))))))) (fun _ m => some (.ok [], m)))) (dB reprF (dCons (dFrz (dLst (dCons (dVar 6) (dCons (dVar 7) (dCons (dVar 7) (dCons (dVar 6) (fun _ m => some (.ok [], m)))))))) (fun _ m => some (.ok [], m)))))
  D_law_0_9_0
  dNil)
def D_law_0_10 : DS := (dAsgG (gLstD (gsCons (gVar 12) (gsCons (gVar 9) gsNil))) (dCall 1 0 c_law_named_1 (dCons (dVar 7) (fun _ m => some (.ok [], m))) dNone))
def D_law_0_11_0 : DS := (dRet (dC (.bl false)))
def D_law_0_11 : DS := (dIfS (tOr2 (b2 neF (dB reprF (dCons (dVar 9) (fun _ m => some (.ok [], m)))) (dB reprF (dCons (d2 mulA (dFrz (dLst (dCons (dVar 7) (fun _ m => some (.ok [], m))))) (dC (.int 20))) (fun _ m => some (.ok [], m))))) (b2 neF (dB reprF (dCons (d2 mulA (dFrz (dLst (dCons (dVar 6) (fun _ m => some (.ok [], m))))) (dC (.int 14))) (fun _ m => some (.ok [], m)))) (dB reprF (dCons (d2 ixA (dCall 1 0 c_law_values_1 (dCons (dVar 6) (fun _ m => some (.ok [], m))) dNone) (dC (.int 1))) (fun _ m => some (.ok [], m))))))
  D_law_0_11_0
  dNil)
def D_law_0_12 : DS := (dAsg 5 (d2 addA (d2 addA (d2 addA (d2 mulA (dFrz (dLst (dCons (dC (.int 0)) (fun _ m => some (.ok [], m))))) (dC (.int 14))) (d2 mulA (dFrz (dLst (dCons (dC (.int 1)) (fun _ m => some (.ok [], m))))) (dC (.int 2)))) (d2 mulA (dFrz (dLst (dCons (dC (.int 2)) (fun _ m => some (.ok [], m))))) (dC (.int 5)))) (d2 mulA (dFrz (dLst (dCons (dC (.int 3)) (fun _ m => some (.ok [], m))))) (dC (.int 2)))))
def D_law_0_13_0_0 : DS := (dRet (dC (.bl false)))
def D_law_0_13_0 : DS := (dIfS (b2 neF (dB reprF (dCons (dCall 1 0 c_law_kinds_1 (dCons (dVar 14) (fun _ m => some (.ok [], m))) dNone) (fun _ m => some (.ok [], m)))) (dB reprF (dCons (dFrz (dLc (iRg1 (dCons (dC (.int 23)) (fun _ m => some (.ok [], m)))) (gcVar 15) dYes (d2 eqF (dVar 13) (dVar 15)) ([("_law_place", 15)].map (·.2)))) (fun _ m => some (.ok [], m)))))
  D_law_0_13_0_0
  dNil)
def D_law_0_13_1_0 : DS := (dRet (dC (.bl false)))
def D_law_0_13_1 : DS := (dIfS (b2 neF (dB reprF (dCons (dCall 1 0 c_law_bases_1 (dCons (dVar 14) (fun _ m => some (.ok [], m))) dNone) (fun _ m => some (.ok [], m)))) (dB reprF (dCons (dFrz (dLc (iRg1 (dCons (dC (.int 4)) (fun _ m => some (.ok [], m)))) (gcVar 15) dYes (d2 eqF (d2 ixA (dVar 5) (dVar 13)) (dVar 15)) ([("_law_place", 15)].map (·.2)))) (fun _ m => some (.ok [], m)))))
  D_law_0_13_1_0
  dNil)
def D_law_0_13 : DS := (dFor (iEnm (dCons (d2 addA (dVar 8) (dVar 3)) (fun _ m => some (.ok [], m)))) (gTupD (gsCons (gVar 13) (gsCons (gVar 14) gsNil)))
  (dSeq D_law_0_13_0
  D_law_0_13_1))
def D_law_0 : DS := (dFor (iRg1 (dCons (dB (two maxZ) (dCons (dC (.int 1)) (dCons (dB (two minZ) (dCons (dC (.int 3)) (dCons (dB lenF (dCons (dVar 0) (fun _ m => some (.ok [], m)))) (fun _ m => some (.ok [], m))))) (fun _ m => some (.ok [], m))))) (fun _ m => some (.ok [], m)))) (gVar 1)
  (dSeq D_law_0_0
  (dSeq D_law_0_1
  (dSeq D_law_0_2
  (dSeq D_law_0_3
  (dSeq D_law_0_4
  (dSeq D_law_0_5
  (dSeq D_law_0_6
  (dSeq D_law_0_7
  (dSeq D_law_0_8
  (dSeq D_law_0_9
  (dSeq D_law_0_10
  (dSeq D_law_0_11
  (dSeq D_law_0_12
  D_law_0_13))))))))))))))
def D_law_1 : DS := (dRet (dC (.bl true)))
def D_law : DS := (dSeq D_law_0
  D_law_1)
def B_law : FD := bodyD 16 D_law
theorem sc_law : FnScope ["_law_script", "_law_at", "_law_bag_here", "_law_more", "_law_turned", "_law_bases_here", "_law_one", "_law_other", "_law_made", "_law_told", "_law_again", "_law_others", "_law_named_here", "_law_k", "_law_each", "_law_place"] ["_law_script"] (defScope s_law) := ⟨rfl, rfl, rfl, by decide +kernel, rfl, by decide +kernel, by decide +kernel⟩
theorem ok_law [Kd] {P : Program} {w : World} {K : PySem.W.Frag} {mg : Str → Option Value} {base : Heap} (Xf : FX P K mg) (Df : DX K) {fd : FuncData} (F : FunD K "law" "law" (defArgs s_law) (defBody s_law) (defScope s_law) (DZ.dvs K z0_law) (DZ.kws K z0_law) (He.ga K "law") fd) :
    Z.FnOk P w K mg base (CXk P w) 4 (He.ga K "law") fd ["_law_script"] (spZ K 1 B_law) := by
  have S := sc_law
  exact body_ok F S fun cdv A outer s H E hr => (sss_cons (ss_for (passes_of rfl) rfl (si_range1 rfl Xf.f_range (sa_cons (se_max2 rfl rfl Xf.f_max (sa_cons se_int (sa_cons (se_min2 rfl rfl Xf.f_min (sa_cons se_int (sa_cons (se_len rfl Xf.f_len (sa_cons (se_var (i := 0) rfl (.inl rfl)) sa_nil)) sa_nil))) sa_nil))) sa_nil)) (sg_name (i := 1) S.nd rfl (.inl rfl))
  (sss_cons (ss_set (i := 2) S.nd rfl (.inl rfl) (se_call (h_law_bag_2_runs Xf Df (hr.mono (by decide : 1 ≤ 3))) (kp_law_bag Df) Xf.g__law_bag rfl (sa_cons (se_var (i := 0) rfl (.inl rfl)) (sa_cons (se_var (i := 1) rfl (.inl rfl)) sa_nil))))
  (sss_cons (ss_asg (se_call (c_law_things_1_runs Xf Df (hr.mono (by decide : 3 ≤ 3))) (kp_law_things Df) Xf.g__law_things rfl (sa_cons (se_var (i := 2) rfl (.inl rfl)) sa_nil)) (sg_lst rfl (sgs_cons (sg_name (i := 6) S.nd rfl (.inl rfl)) (sgs_cons (sg_name (i := 7) S.nd rfl (.inl rfl)) sgs_nil)) (gsl_cons (gsl_cons gsl_nil))))
  (sss_cons (ss_asg (se_call (c_law_values_1_runs Xf Df (hr.mono (by decide : 2 ≤ 3))) (kp_law_values Df) Xf.g__law_values rfl (sa_cons (se_var (i := 6) rfl (.inl rfl)) sa_nil)) (sg_lst rfl (sgs_cons (sg_name (i := 8) S.nd rfl (.inl rfl)) (sgs_cons (sg_name (i := 9) S.nd rfl (.inl rfl)) sgs_nil)) (gsl_cons (gsl_cons gsl_nil))))
  (sss_cons (ss_asg (se_call (c_law_values_1_runs Xf Df (hr.mono (by decide : 2 ≤ 3))) (kp_law_values Df) Xf.g__law_values rfl (sa_cons (se_var (i := 7) rfl (.inl rfl)) sa_nil)) (sg_lst rfl (sgs_cons (sg_name (i := 10) S.nd rfl (.inl rfl)) (sgs_cons (sg_name (i := 11) S.nd rfl (.inl rfl)) sgs_nil)) (gsl_cons (gsl_cons gsl_nil))))
  (sss_cons (ss_if (st_w (sw_or (st_ne (u64 hr) (se_repr (hr.mono (Nat.zero_le _)) rfl Xf.f_repr (sa_cons (se_var (i := 9) rfl (.inl rfl)) sa_nil)) (se_repr (hr.mono (Nat.zero_le _)) rfl Xf.f_repr (sa_cons (se_mul (se_frz (sl_lst (sa_cons (se_var (i := 6) rfl (.inl rfl)) sa_nil))) se_int) sa_nil))) (sw_or1 (st_ne (u64 hr) (se_repr (hr.mono (Nat.zero_le _)) rfl Xf.f_repr (sa_cons (se_var (i := 11) rfl (.inl rfl)) sa_nil)) (se_repr (hr.mono (Nat.zero_le _)) rfl Xf.f_repr (sa_cons (se_mul (se_frz (sl_lst (sa_cons (se_var (i := 7) rfl (.inl rfl)) sa_nil))) se_int) sa_nil))))))
  (sss_one (ss_ret se_bl))
  sss_nil)
  (sss_cons (ss_set (i := 3) S.nd rfl (.inl rfl) (se_frz (sl_lst (sa_cons (se_call (errP_runs Xf.w_NoRow rfl Xf.f_super (hr.mono (by decide : 1 ≤ 3))) Xf.w_NoRow.keep Xf.g_NoRow rfl (sa_cons (se_var (i := 6) rfl (.inl rfl)) sa_nil)) (sa_cons (se_call (errP_runs Xf.w_Unbound rfl Xf.f_super (hr.mono (by decide : 1 ≤ 3))) Xf.w_Unbound.keep Xf.g_Unbound rfl (sa_cons (se_var (i := 6) rfl (.inl rfl)) sa_nil)) (sa_cons (se_call (errP_runs Xf.w_KeyTaken rfl Xf.f_super (hr.mono (by decide : 1 ≤ 3))) Xf.w_KeyTaken.keep Xf.g_KeyTaken rfl (sa_cons (se_var (i := 6) rfl (.inl rfl)) sa_nil)) (sa_cons (se_call (errP_runs Xf.w_Taken rfl Xf.f_super (hr.mono (by decide : 1 ≤ 3))) Xf.w_Taken.keep Xf.g_Taken rfl (sa_cons (se_var (i := 6) rfl (.inl rfl)) sa_nil)) (sa_cons (se_call (errP2_runs Xf.w_Refused rfl Xf.f_super (hr.mono (by decide : 1 ≤ 3))) Xf.w_Refused.keep Xf.g_Refused rfl (sa_cons (se_var (i := 6) rfl (.inl rfl)) (sa_cons (se_var (i := 7) rfl (.inl rfl)) sa_nil))) (sa_cons (se_call0 (err0_runs Xf.n_NotOpen.1 rfl) Xf.n_NotOpen.2 Xf.g_NotOpen rfl) (sa_cons (se_call0 (err0_runs Xf.n_StillOpen.1 rfl) Xf.n_StillOpen.2 Xf.g_StillOpen rfl) sa_nil))))))))))
  (sss_cons (ss_set (i := 3) S.nd rfl (.inl rfl) (se_add (se_var (i := 3) rfl (.inl rfl)) (se_frz (sl_lst (sa_cons (se_call (errP_runs Xf.w_TooMany rfl Xf.f_super (hr.mono (by decide : 1 ≤ 3))) Xf.w_TooMany.keep Xf.g_TooMany rfl (sa_cons (se_var (i := 6) rfl (.inl rfl)) sa_nil)) (sa_cons (se_call (errP_runs Xf.w_TooWide rfl Xf.f_super (hr.mono (by decide : 1 ≤ 3))) Xf.w_TooWide.keep Xf.g_TooWide rfl (sa_cons (se_var (i := 6) rfl (.inl rfl)) sa_nil)) sa_nil))))))
  (sss_cons (ss_if (st_ne (u64 hr) (se_repr (hr.mono (Nat.zero_le _)) rfl Xf.f_repr (sa_cons (se_frz (sl_lst (sa_cons (se_xf (se_ix (se_var (i := 3) rfl (.inl rfl)) se_int) Xf.errk Xf.xf_key) (sa_cons (se_xf (se_ix (se_var (i := 3) rfl (.inl rfl)) se_int) Xf.errk Xf.xf_name) (sa_cons (se_xf (se_ix (se_var (i := 3) rfl (.inl rfl)) se_int) Xf.errk Xf.xf_key) (sa_cons (se_xf (se_ix (se_var (i := 3) rfl (.inl rfl)) se_int) Xf.errk Xf.xf_column) (sa_cons (se_xf (se_ix (se_var (i := 3) rfl (.inl rfl)) se_int) Xf.errk Xf.xf_limit) (sa_cons (se_xf (se_ix (se_var (i := 3) rfl (.inl rfl)) se_int) Xf.errk Xf.xf_limit) sa_nil)))))))) sa_nil)) (se_repr (hr.mono (Nat.zero_le _)) rfl Xf.f_repr (sa_cons (se_mul (se_frz (sl_lst (sa_cons (se_var (i := 6) rfl (.inl rfl)) sa_nil))) se_int) sa_nil)))
  (sss_one (ss_ret se_bl))
  sss_nil)
  (sss_cons (ss_set (i := 4) S.nd rfl (.inl rfl) (se_callK0 (errK2_runs Xf.w_Refused rfl Xf.f_super (hr.mono (by decide : 1 ≤ 3))) Xf.w_Refused.keep Xf.g_Refused rfl (sk_cons (se_var (i := 6) rfl (.inl rfl)) (sk_cons (se_var (i := 7) rfl (.inl rfl)) sk_nil))))
  (sss_cons (ss_if (st_ne (u64 hr) (se_repr (hr.mono (Nat.zero_le _)) rfl Xf.f_repr (sa_cons (se_frz (sl_lst (sa_cons (se_xf (se_ix (se_var (i := 3) rfl (.inl rfl)) se_int) Xf.errk Xf.xf_place) (sa_cons (se_xf (se_ix (se_var (i := 3) rfl (.inl rfl)) se_int) Xf.errk Xf.xf_why) (sa_cons (se_xf (se_var (i := 4) rfl (.inl rfl)) Xf.errk Xf.xf_place) (sa_cons (se_xf (se_var (i := 4) rfl (.inl rfl)) Xf.errk Xf.xf_why) sa_nil)))))) sa_nil)) (se_repr (hr.mono (Nat.zero_le _)) rfl Xf.f_repr (sa_cons (se_frz (sl_lst (sa_cons (se_var (i := 6) rfl (.inl rfl)) (sa_cons (se_var (i := 7) rfl (.inl rfl)) (sa_cons (se_var (i := 7) rfl (.inl rfl)) (sa_cons (se_var (i := 6) rfl (.inl rfl)) sa_nil)))))) sa_nil)))
  (sss_one (ss_ret se_bl))
  sss_nil)
  (sss_cons (ss_asg (se_call (c_law_named_1_runs Xf Df (hr.mono (by decide : 2 ≤ 3))) (kp_law_named Df) Xf.g__law_named rfl (sa_cons (se_var (i := 7) rfl (.inl rfl)) sa_nil)) (sg_lst rfl (sgs_cons (sg_name (i := 12) S.nd rfl (.inl rfl)) (sgs_cons (sg_name (i := 9) S.nd rfl (.inl rfl)) sgs_nil)) (gsl_cons (gsl_cons gsl_nil))))
  (sss_cons (ss_if (st_w (sw_or (st_ne (u64 hr) (se_repr (hr.mono (Nat.zero_le _)) rfl Xf.f_repr (sa_cons (se_var (i := 9) rfl (.inl rfl)) sa_nil)) (se_repr (hr.mono (Nat.zero_le _)) rfl Xf.f_repr (sa_cons (se_mul (se_frz (sl_lst (sa_cons (se_var (i := 7) rfl (.inl rfl)) sa_nil))) se_int) sa_nil))) (sw_or1 (st_ne (u64 hr) (se_repr (hr.mono (Nat.zero_le _)) rfl Xf.f_repr (sa_cons (se_mul (se_frz (sl_lst (sa_cons (se_var (i := 6) rfl (.inl rfl)) sa_nil))) se_int) sa_nil)) (se_repr (hr.mono (Nat.zero_le _)) rfl Xf.f_repr (sa_cons (se_ix (se_call (c_law_values_1_runs Xf Df (hr.mono (by decide : 2 ≤ 3))) (kp_law_values Df) Xf.g__law_values rfl (sa_cons (se_var (i := 6) rfl (.inl rfl)) sa_nil)) se_int) sa_nil))))))
  (sss_one (ss_ret se_bl))
  sss_nil)
  (sss_cons (ss_set (i := 5) S.nd rfl (.inr rfl) (se_add (se_add (se_add (se_mul (se_frz (sl_lst (sa_cons se_int sa_nil))) se_int) (se_mul (se_frz (sl_lst (sa_cons se_int sa_nil))) se_int)) (se_mul (se_frz (sl_lst (sa_cons se_int sa_nil))) se_int)) (se_mul (se_frz (sl_lst (sa_cons se_int sa_nil))) se_int)))
  (sss_one (ss_for (passes_of rfl) rfl (si_enum rfl Xf.f_enumerate (sa_cons (se_add (se_var (i := 8) rfl (.inl rfl)) (se_var (i := 3) rfl (.inl rfl))) sa_nil)) (sg_tup rfl (sgs_cons (sg_name (i := 13) S.nd rfl (.inr rfl)) (sgs_cons (sg_name (i := 14) S.nd rfl (.inl rfl)) sgs_nil)) (gsl_cons (gsl_cons gsl_nil)))
  (sss_cons (ss_if (st_ne (u64 hr) (se_repr (hr.mono (Nat.zero_le _)) rfl Xf.f_repr (sa_cons (se_call (c_law_kinds_1_runs Xf Df (hr.mono (by decide : 1 ≤ 3))) (kp_law_kinds Df) Xf.g__law_kinds rfl (sa_cons (se_var (i := 14) rfl (.inl rfl)) sa_nil)) sa_nil)) (se_repr (hr.mono (Nat.zero_le _)) rfl Xf.f_repr (sa_cons (se_frz (sl_lc rfl S.nd (si_range1 rfl Xf.f_range (sa_cons se_int sa_nil)) (own := [("_law_place", 15)]) (blkOk_by rfl) (fun _ _ _ _ _ => (sgc_name (i := 15) S.nd rfl (.inl rfl))) (fun _ _ _ _ _ => sts_nil) (fun _ _ _ _ _ => (se_eq (u64 hr) (se_var (i := 13) rfl (.inr (.inl rfl))) (se_var (i := 15) rfl (.inl rfl)))))) sa_nil)))
  (sss_one (ss_ret se_bl))
  sss_nil)
  (sss_one (ss_if (st_ne (u64 hr) (se_repr (hr.mono (Nat.zero_le _)) rfl Xf.f_repr (sa_cons (se_call (c_law_bases_1_runs Xf Df (hr.mono (by decide : 1 ≤ 3))) (kp_law_bases Df) Xf.g__law_bases rfl (sa_cons (se_var (i := 14) rfl (.inl rfl)) sa_nil)) sa_nil)) (se_repr (hr.mono (Nat.zero_le _)) rfl Xf.f_repr (sa_cons (se_frz (sl_lc rfl S.nd (si_range1 rfl Xf.f_range (sa_cons se_int sa_nil)) (own := [("_law_place", 15)]) (blkOk_by rfl) (fun _ _ _ _ _ => (sgc_name (i := 15) S.nd rfl (.inl rfl))) (fun _ _ _ _ _ => sts_nil) (fun _ _ _ _ _ => (se_eq (u64 hr) (se_ix (se_var (i := 5) rfl (.inr (.inl rfl))) (se_var (i := 13) rfl (.inr (.inl rfl)))) (se_var (i := 15) rfl (.inl rfl)))))) sa_nil)))
  (sss_one (ss_ret se_bl))
  sss_nil)))))))))))))))))))
  (sss_one (ss_ret se_bl)))
abbrev G_law : FD := B_law
section
theorem toDs_ints : ∀ l : List Int, toDs (l.map .int) = some (l.map .int)
  | [] => rfl
  | x :: l => by
    show (match some (PyData.int x) with
      | some d => (match toDs (l.map .int) with
        | some ds => some (d :: ds)
        | none => none)
      | none => none) = _
    rw [toDs_ints l]
    rfl
theorem lay_ints : ∀ l : List Int, PyData.canLayAll0 (l.map .int) = true
  | [] => rfl
  | x :: l => by
    show (PyData.canLay0 (.int x) && PyData.canLayAll0 (l.map .int)) = true
    rw [lay_ints l]
    rfl
theorem dep_ints : ∀ l : List Int, PyData.depthAll (l.map .int) = 0
  | [] => rfl
  | x :: l => by
    show max (PyData.depth (.int x)) (PyData.depthAll (l.map .int)) = 0
    rw [dep_ints l]
    rfl
theorem shaped_ints (l : List Int) : SeqAt.shaped (.list (l.map .int)) = true := by
  unfold SeqAt.shaped
  rw [show PyData.canLay0 (.list (l.map .int)) = PyData.canLayAll0 (l.map .int) from rfl, lay_ints, show PyData.depth (.list (l.map .int)) = PyData.depthAll (l.map .int) + 1 from rfl, dep_ints]
  rfl
theorem blsL_map (f : Vl → Bool) : ∀ ys : List Vl, blsL (ys.map fun y => .bl (f y)) = some (ys.map f)
  | [] => rfl
  | y :: ys => by
    show (match blsL (ys.map fun y => .bl (f y)) with
      | some bs => some (f y :: bs)
      | none => none) = _
    rw [blsL_map f ys]
    rfl
theorem rng_t (z : Int) (h0 : 0 ≤ z) (h : z < 100) : rng1 [.int z] = some (intsZ 0 z.toNat) := by
  have h1 : -(2 ^ 62) ≤ z := by omega
  have h2 : z < 2 ^ 62 := by omega
  unfold rng1
  simp only [h1, h2, decide_true, Bool.and_self, if_true]
theorem ints_len (a : Int) (n : Nat) : (intsZ a n).length = n := by
  unfold intsZ
  simp
theorem rng_i (z : Int) (h : z < 100) (h0 : 0 ≤ z) : rng1 [.int z] = some (intsZ 0 z.toNat) := rng_t z h0 h
theorem le_sz {n : Nat} (h : n ≤ 100000) : n ≤ sizeLine := Nat.le_trans h (by decide)
structure Sm (d : PyData) (k n : Nat) : Prop where
  lay : PyData.canLay0 d = true
  dep : PyData.depth d ≤ k
  sho : PyData.showable d = true
  hd : PyData.hasDict d = false
  len : shB d ≤ n
theorem sm_str {s : Str} {n : Nat} (h : ∀ c ∈ s.cps.toList, c < 1114112) (hl : s.length ≤ n) : Sm (.str s) 0 (10 * n + 2) := by
  have hc : ∀ c ∈ s.cps.toList, c < 0x110000 := h
  refine ⟨?_, Nat.le_refl _, rfl, rfl, ?_⟩
  · show (s.cps.all fun c => decide (c < 0x110000)) = true
    rw [← Array.all_toList]
    exact List.all_eq_true.mpr fun c hm => decide_eq_true (hc c hm)
  · show (PyData.shown (.str s)).length ≤ _
    rw [PyData.shown_str]
    have := StrLaws.reprText_len s (fun c hm => Nat.lt_trans (hc c hm) (by decide))
    omega
theorem sm_two {a b : PyData} {k n m : Nat} (h : Sm a k n) (g : Sm b k m) : Sm (.tuple [a, b]) (k + 1) (n + m + 8) := by
  refine ⟨?_, ?_, ?_, ?_, ?_⟩
  · show (PyData.canLay0 a && (PyData.canLay0 b && true)) = true
    rw [h.lay, g.lay]
    rfl
  · show max (PyData.depth a) (max (PyData.depth b) 0) + 1 ≤ _
    have := h.dep
    have := g.dep
    omega
  · show (PyData.showable a && (PyData.showable b && true)) = true
    rw [h.sho, g.sho]
    rfl
  · show (PyData.hasDict a || (PyData.hasDict b || false)) = false
    rw [h.hd, g.hd]
    rfl
  · show shB a + 2 + (shB b + 2 + 0) + 4 ≤ _
    have := h.len
    have := g.len
    omega
theorem repr_sm {x : Vl} {d : PyData} {m : Mem} {k n : Nat} (e : toDm m x = some d) (s : Sm d k n) (hk : k ≤ 60) (hn : n ≤ 100000) : reprF [x] m = some (.str d.shown, m) := by
  have h1 := s.dep
  have h2 := s.len
  unfold reprF
  simp only [e]
  rw [if_pos]
  rw [s.sho, s.hd, decide_eq_true (show d.depth ≤ 60 by omega), decide_eq_true (le_sz (show shB d ≤ 100000 by omega))]
  rfl
theorem Sm.mono {d : PyData} {k n k' n' : Nat} (s : Sm d k n) (hk : k ≤ k') (hn : n ≤ n') : Sm d k' n' := ⟨s.lay, Nat.le_trans s.dep hk, s.sho, s.hd, Nat.le_trans s.len hn⟩
theorem sm_one {a : PyData} {k n : Nat} (h : Sm a k n) : Sm (.tuple [a]) (k + 1) (n + 6) ∧ Sm (.list [a]) (k + 1) (n + 6) := by
  have e1 := h.lay
  have e2 := h.dep
  have e3 := h.sho
  have e4 := h.hd
  have e5 := h.len
  constructor
  · refine ⟨?_, ?_, ?_, ?_, ?_⟩
    · show (PyData.canLay0 a && true) = true
      rw [e1]
      rfl
    · show max (PyData.depth a) 0 + 1 ≤ _
      omega
    · show (PyData.showable a && true) = true
      rw [e3]
      rfl
    · show (PyData.hasDict a || false) = false
      rw [e4]
      rfl
    · show shB a + 2 + 0 + 4 ≤ _
      omega
  · refine ⟨?_, ?_, ?_, ?_, ?_⟩
    · show (PyData.canLay0 a && true) = true
      rw [e1]
      rfl
    · show max (PyData.depth a) 0 + 1 ≤ _
      omega
    · show (PyData.showable a && true) = true
      rw [e3]
      rfl
    · show (PyData.hasDict a || false) = false
      rw [e4]
      rfl
    · show shB a + 2 + 0 + 4 ≤ _
      omega
theorem sm_lst2 {a b : PyData} {k n m : Nat} (h : Sm a k n) (g : Sm b k m) : Sm (.list [a, b]) (k + 1) (n + m + 8) := by
  have z := sm_two h g
  exact ⟨z.lay, z.dep, z.sho, z.hd, z.len⟩
theorem sm_int : ∀ i : Int, 0 ≤ i → i ≤ 999 → Sm (.int i) 0 200 := fun i h0 h1 => by
  have e : ∀ n : Nat, n < 1000 → (decide (((n : Nat) : Int).natAbs.log2 < 1920) && decide ((PyData.shown (.int ((n : Nat) : Int))).length ≤ 200)) = true := by decide +kernel
  obtain ⟨n, rfl⟩ := Int.eq_ofNat_of_zero_le h0
  have h := e n (by omega)
  rw [Bool.and_eq_true, decide_eq_true_eq, decide_eq_true_eq] at h
  exact ⟨rfl, Nat.le_refl _, decide_eq_true h.1, rfl, h.2⟩
theorem sm_lit (s : Str) (h : (s.cps.all fun c => decide (c < 1114112)) = true) (hl : s.length ≤ 10) : Sm (.str s) 0 110 := by
  have := sm_str (s := s) (n := 10) (fun c hc => by
    rw [← Array.all_toList] at h
    exact of_decide_eq_true (List.all_eq_true.mp h c hc)) hl
  exact ⟨this.lay, this.dep, this.sho, this.hd, Nat.le_trans this.len (by decide)⟩
theorem toDs_cons {x : Vl} {xs : List Vl} {d : PyData} {ds : List PyData} (h : toD x = some d) (hs : toDs xs = some ds) : toDs (x :: xs) = some (d :: ds) := by
  show (match toD x with
    | some d => (match toDs xs with
      | some ds => some (d :: ds)
      | none => none)
    | none => none) = _
  rw [h, hs]
theorem toD_tup {xs : List Vl} {ds : List PyData} (hs : toDs xs = some ds) : toD (.tup xs) = some (.tuple ds) := by
  show (match toDs xs with
    | some ds => some (PyData.tuple ds)
    | none => none) = _
  rw [hs]
theorem toD_lst {xs : List Vl} {ds : List PyData} (hs : toDs xs = some ds) : toD (.lst xs) = some (.list ds) := by
  show (match toDs xs with
    | some ds => some (PyData.list ds)
    | none => none) = _
  rw [hs]
theorem toDm_tup {m : Mem} {xs : List Vl} {d : PyData} (h : toD (.tup xs) = some d) : toDm m (.tup xs) = some d := h
theorem sm_all : ∀ {ds : List PyData} {k n : Nat}, (∀ d ∈ ds, Sm d k n) → PyData.canLayAll0 ds = true ∧ PyData.depthAll ds ≤ k ∧ PyData.showableAll ds = true ∧ PyData.hasDictAll ds = false ∧ shBs ds ≤ ds.length * (n + 2)
  | [], k, n, _ => ⟨rfl, Nat.zero_le _, rfl, rfl, by show 0 ≤ _; exact Nat.zero_le _⟩
  | d :: ds, k, n, h => by
    obtain ⟨h1, h2, h3, h4, h5⟩ := sm_all fun e he => h e (List.mem_cons_of_mem _ he)
    have s := h d (List.mem_cons_self ..)
    refine ⟨?_, ?_, ?_, ?_, ?_⟩
    · show (PyData.canLay0 d && PyData.canLayAll0 ds) = true
      rw [s.lay, h1]
      rfl
    · show max (PyData.depth d) (PyData.depthAll ds) ≤ k
      have := s.dep
      omega
    · show (PyData.showable d && PyData.showableAll ds) = true
      rw [s.sho, h3]
      rfl
    · show (PyData.hasDict d || PyData.hasDictAll ds) = false
      rw [s.hd, h4]
      rfl
    · show shB d + 2 + shBs ds ≤ (ds.length + 1) * (n + 2)
      have := s.len
      rw [Nat.add_mul]
      omega
theorem sm_list {ds : List PyData} {k n : Nat} (h : ∀ d ∈ ds, Sm d k n) : Sm (.list ds) (k + 1) (ds.length * (n + 2) + 4) := by
  obtain ⟨h1, h2, h3, h4, h5⟩ := sm_all h
  exact ⟨h1, by show PyData.depthAll ds + 1 ≤ _; omega, h3, h4, by show shBs ds + 4 ≤ _; omega⟩
theorem addA_lsts {a b : List Vl} {m : Mem} (h : a.length + b.length ≤ sizeLine) : addA (.lst a) (.lst b) m = some (.lst (a ++ b), m) := by
  have e : addL (.lst a) (.lst b) m = some (.lst (a ++ b), m) := by
    show (if a.length + b.length ≤ sizeLine then some (Vl.lst (a ++ b), m) else none) = _
    rw [if_pos h]
  show (match addL (.lst a) (.lst b) m with
    | some r => some r
    | none => addT (.lst a) (.lst b) m) = _
  rw [e]
theorem seq_nx {a b : DS} {env env1 : Ev} {m m1 : Mem} {r : Option (Fl × Mem)} (h1 : a env m = some (.nx env1, m1)) (h2 : b env1 m1 = r) : dSeq a b env m = r := by
  rw [dSeq_ap, h1, thenS_nx]
  exact h2
theorem body_rt {n : Nat} {d : DS} {xs : List Vl} {m m' : Mem} {v : Vl} (h : d (startZ n xs) m = some (.rt v, m')) : bodyD n d xs m = some (.ok v, m') := by
  unfold bodyD
  rw [h]
theorem body_ex {n : Nat} {d : DS} {xs : List Vl} {m m' : Mem} {c : Str} {fs : List (Str × Vl)} {e : Ev} (h : d (startZ n xs) m = some (.ex c fs e, m')) : bodyD n d xs m = some (.ex c fs, m') := by
  unfold bodyD
  rw [h]
theorem seq_rt {a b : DS} {env : Ev} {m m1 : Mem} {v : Vl} (h1 : a env m = some (.rt v, m1)) : dSeq a b env m = some (.rt v, m1) := by
  rw [dSeq_ap, h1]
  rfl
end
section
/-- the bag at n: two numbers -/
def Bag (n : Nat) (m : Mem) : Prop := ∃ c b : Int, m[n]? = some (.lst [.int c, .int b])
theorem Bag.app {n : Nat} {m : Mem} (h : Bag n m) (c : Mem) : Bag n (m ++ c) := by
  obtain ⟨x, y, h⟩ := h
  exact ⟨x, y, by rw [List.getElem?_append_left (getlt h)]; exact h⟩
theorem Bag.set {n p : Nat} {m : Mem} (h : Bag n m) (hne : p ≠ n) (c : Cell) : Bag n (m.set p c) := by
  obtain ⟨x, y, h⟩ := h
  exact ⟨x, y, by rw [List.getElem?_set_ne hne]; exact h⟩
theorem Bag.lt {n : Nat} {m : Mem} (h : Bag n m) : n < m.length := by
  obtain ⟨x, y, h⟩ := h
  exact getlt h
/-- m' is m but for the bag -/
structure Nb (n : Nat) (m m' : Mem) : Prop where
  bag : Bag n m'
  len : m'.length = m.length
  oth : ∀ j, j ≠ n → m'[j]? = m[j]?
theorem Nb.trans {n : Nat} {m m' m'' : Mem} (a : Nb n m m') (b : Nb n m' m'') : Nb n m m'' := ⟨b.bag, b.len.trans a.len, fun j hj => (b.oth j hj).trans (a.oth j hj)⟩
theorem Nb.refl {n : Nat} {m : Mem} (h : Bag n m) : Nb n m m := ⟨h, rfl, fun _ _ => rfl⟩
theorem take_ok {m : Mem} {n : Nat} (h : Bag n m) {k : Nat} (h1 : 0 < k) (h2 : k < 1000) : ∃ (d : Nat) (m' : Mem), d < k ∧ c_law_take_2 [.obj n, .int (k : Int)] [] m = some (.ok (.int (d : Int)), m') ∧ Nb n m m' := by
  obtain ⟨c, b, h⟩ := h
  have i0 : ∀ {z : Int} {b : Vl}, L2.atI [.int z, b] 0 = some (.int z) := rfl
  have i1 : ∀ {z : Vl} {b : Int}, L2.atI [z, .int b] 1 = some (.int b) := rfl
  have hk : (0 : Int) < (k : Int) := by omega
  have hk2 : (k : Int) < 1073741824 := by omega
  have nb : ∀ c', Nb n m (m.set n (.lst c')) → Nb n m (m.set n (.lst c')) := fun _ h => h
  have em : ∀ z : Int, ∃ d : Nat, d < k ∧ z % (k : Int) = (d : Int) := fun z => by
    have a1 := Int.emod_nonneg z (b := (k : Int)) (by omega)
    have a2 := Int.emod_lt_of_pos z hk
    exact ⟨(z % (k : Int)).toNat, by omega, by omega⟩
  have nbs : ∀ c' b' : Int, Nb n m (m.set n (.lst [.int c', .int b'])) := fun c' b' => ⟨⟨c', b', get_set h⟩, by simp, fun j hj => by rw [List.getElem?_set_ne (Ne.symm hj)]⟩
  by_cases hc : 0 < c
  · obtain ⟨d, hd, e⟩ := em c
    refine ⟨d, m.set n (.lst [.int (c / k), .int b]), hd, ?_, nbs _ _⟩
    have g1 : ∀ (e1 e2 : Option Vl), gSetI (dVar 0) (dC (.int 0)) (.int (c / k)) [some (.obj n), e1, e2] m = some ([some (.obj n), e1, e2], m.set n (.lst [.int (c / k), .int b])) := fun e1 e2 => gSetI_ap (n := n) (q := 0) (j := 0) rfl rfl h rfl
    show bodyD 3 D_law_take [.obj n, .int k] m = _
    simp [bodyD, startZ, D_law_take, ixA_obj h i0, hc, modI_int hk, divI_int hk hk2, g1, e]
  · have g1 : ∀ (v : Int) (e1 e2 : Option Vl), gSetI (dVar 0) (dC (.int 1)) (.int v) [some (.obj n), e1, e2] m = some ([some (.obj n), e1, e2], m.set n (.lst [.int c, .int v])) := fun v e1 e2 => gSetI_ap (n := n) (q := 1) (j := 1) rfl rfl h rfl
    have hs : ∀ v : Int, (m.set n (Cell.lst [.int c, .int v]))[n]? = some (.lst [.int c, .int v]) := fun v => get_set h
    obtain ⟨d, hd, e⟩ := em ((b * 40692 + 70001) % 2147483579 / 13 * 52817 % 2147483549 / 64)
    refine ⟨d, m.set n (.lst [.int c, .int ((b * 40692 + 70001) % 2147483579)]), hd, ?_, nbs _ _⟩
    show bodyD 3 D_law_take [.obj n, .int k] m = _
    simp [bodyD, startZ, D_law_take, ixA_obj h i0, ixA_obj h i1, hc, modI_int hk, modI_int (n := 2147483579) (by decide), modI_int (n := 2147483549) (by decide), divI_int (n := 13) (by decide) (by decide), divI_int (n := 64) (by decide) (by decide), mulA_int (mulC_r (n := 40692) (by decide) (by decide)), mulA_int (mulC_r (n := 52817) (by decide) (by decide)), g1, ixA_obj (hs _) i1, e]
theorem of_ok {m : Mem} {n : Nat} (h : Bag n m) (L : List Vl) (h1 : 0 < L.length) (h2 : L.length < 1000) : ∃ (v : Vl) (m' : Mem), v ∈ L ∧ c_law_of_2 [.obj n, .lst L] [] m = some (.ok v, m') ∧ Nb n m m' := by
  obtain ⟨d, m1, a, b, k⟩ := take_ok h h1 h2
  refine ⟨L[d], m1, List.getElem_mem a, ?_, k⟩
  show bodyD 2 D_law_of [.obj n, .lst L] m = _
  have ix : ixA (.lst L) (.int (d : Int)) m1 = some (L[d], m1) := ixA_lst (atI_of (by omega) (by rw [Int.toNat_natCast]; exact List.getElem?_eq_getElem a))
  simp [bodyD, startZ, D_law_of, lenF_lst, b, ix]
/-- a list that is a cell -/
theorem of_obj {m : Mem} {n p : Nat} (h : Bag n m) (hne : p ≠ n) {L : List Vl} (hp : m[p]? = some (.lst L)) (h1 : 0 < L.length) (h2 : L.length < 1000) : ∃ (v : Vl) (m' : Mem), v ∈ L ∧ c_law_of_2 [.obj n, .obj p] [] m = some (.ok v, m') ∧ Nb n m m' := by
  obtain ⟨d, m1, a, b, k⟩ := take_ok h h1 h2
  refine ⟨L[d], m1, List.getElem_mem a, ?_, k⟩
  show bodyD 2 D_law_of [.obj n, .obj p] m = _
  have ix : ixA (.obj p) (.int (d : Int)) m1 = some (L[d], m1) := ixA_obj ((k.oth p hne).trans hp) (atI_of (by omega) (by rw [Int.toNat_natCast]; exact List.getElem?_eq_getElem a))
  simp [bodyD, startZ, D_law_of, lenF_obj hp, b, ix]
theorem bag_B (ns : List Int) (hns : ns.length ≤ 63) (t : Int) (ht : 0 ≤ t) : wpO (B_law_bag [.frl (ns.map .int), .int t] []) fun r m => r = .ok (.obj 0) ∧ ∃ c b : Int, m = [.lst [.int c, .int b]] := by
  have hsl : ∀ m, slD (.frl (ns.map Vl.int)) none (some 60) m = some (.lst (cutZ (ns.map Vl.int) none (some ((60 : Nat) : Int))), m) := fun m => rfl
  have hcut : ∀ x ∈ cutZ (ns.map Vl.int) none (some ((60 : Nat) : Int)), ∃ i : Int, x = .int i := fun x hx => by
    have hx : x ∈ (ns.map Vl.int) := by
      unfold cutZ at hx
      exact List.mem_of_mem_drop (List.mem_of_mem_take hx)
    obtain ⟨i, _, rfl⟩ := List.mem_map.mp hx
    exact ⟨i, rfl⟩
  have hp : powI (.int 10) (.int 18) [] = some (.int (10 ^ 18), []) := rfl
  have ha : t < ns.length → ∃ z : Int, L2.atI (ns.map Vl.int) t = some (.int z) := fun h => by
    have hi : t.toNat < ns.length := by omega
    exact ⟨ns[t.toNat], atI_of ht (by rw [List.getElem?_map, List.getElem?_eq_getElem hi]; rfl)⟩
  refine wp_body ?_
  generalize cutZ (ns.map Vl.int) none (some ((60 : Nat) : Int)) = xs at hsl hcut
  have key : ∀ (c b0 : Int), wpO
    (thenS (forL (gTupD (gsCons (gVar 4) (gsCons (gVar 5) gsNil)))
            (dAsg 3 (d2 modI (dB intFn (dCons (d2 addA (d2 addA (d2 addA (d2 mulA (dVar 3) (dC (.int 41177))) (d2 modI (dB intFn (dCons (dVar 5) (fun _ m => some (.ok [], m)))) (dC (.int 2147483563)))) (d2 mulA (dC (.int 57)) (dVar 4))) (dC (.int 5))) (fun _ m => some (.ok [], m)))) (dC (.int 2147483399)))) (enumZ xs)
            [some (.frl (ns.map .int)), some (.int t), some (.int c), some (.int b0), none, none] [])
      (dRet (dNew (dLst (dCons (dIf (b2 geI (dB absF (dCons (dVar 2) (fun _ m => some (.ok [], m)))) (d2 powI (dC (.int 10)) (dC (.int 18)))) (dB absF (dCons (dVar 2) (fun _ m => some (.ok [], m)))) (dC (.int 0))) (dCons (dVar 3) (fun _ m => some (.ok [], m))))))))
    (fun f m' => match f with
      | .rt v => v = .obj 0 ∧ ∃ c b : Int, m' = [.lst [.int c, .int b]]
      | _ => False) := fun c b0 => by
    refine wp_for (P := fun env m => m = [] ∧ ∃ (b : Int) (e4 e5 : Option Vl), env = [some (.frl (ns.map .int)), some (.int t), some (.int c), some (.int b), e4, e5]) ⟨rfl, _, _, _, rfl⟩ ?_ ?_
    · rintro x hx env m ⟨rfl, b, e4, e5, rfl⟩
      obtain ⟨i, hi⟩ := List.mem_iff_getElem?.mp hx
      obtain ⟨y, hy, rfl⟩ := enumZ_get hi
      obtain ⟨z, rfl⟩ := hcut y (List.mem_of_getElem? hy)
      refine ⟨_, _, rfl, ?_⟩
      simp [mulA_int (mulC_r (n := 41177) (by decide) (by decide)), mulA_int (mulC_l (k := 57) (by decide) (by decide)), modI_int (n := 2147483563) (by decide), modI_int (n := 2147483399) (by decide)]
    · rintro env m ⟨rfl, b, e4, e5, rfl⟩
      by_cases h : (10 : Int) ^ 18 ≤ (if c < 0 then -c else c)
      · simp [hp, show (1000000000000000000 : Int) ≤ (if c < 0 then -c else c) from h]
      · simp [hp, show ¬ (1000000000000000000 : Int) ≤ (if c < 0 then -c else c) from h]
  have hl : lenF [.frl (ns.map Vl.int)] [] = some (.int ns.length, []) := by
    rw [lenF_frl, List.length_map]
  by_cases h : t < ns.length
  · obtain ⟨z, hz⟩ := ha h
    simp [startZ, D_law_bag, hsl, hl, h, ixA_frl hz, mulA_int (mulC_l (k := 1913) (by decide) (by decide))]
    exact wpO_mono (key _ _) fun f m h => by cases f <;> exact h
  · simp [startZ, D_law_bag, hsl, hl, h, mulA_int (mulC_l (k := 1913) (by decide) (by decide))]
    exact wpO_mono (key _ _) fun f m h => by cases f <;> exact h
theorem bag_ok (ns : List Int) (hns : ns.length ≤ 63) (t : Int) (ht : 0 ≤ t) (m : Mem) : ∃ m', h_law_bag_2 [.frl (ns.map .int), .int t] [] m = some (.ok (.obj m.length), m') ∧ Bag m.length m' ∧ m'.length = m.length + 1 := by
  obtain ⟨r, m1, h1, rfl, c, b, rfl⟩ := wpO_iff.mp (bag_B ns hns t ht)
  have e : h_law_bag_2 [.frl (ns.map .int), .int t] [] m = some (.ok (.obj m.length), m ++ [.lst [.int c, .int b]]) := by
    refine fresh_top h1 ?_ rfl ?_
    · show (cloL 0 (ns.map .int) && _) = true
      rw [cloL_ints]
      rfl
    · intro z hz
      rcases List.mem_cons.mp hz with rfl | hz
      · rfl
      rcases List.mem_cons.mp hz with rfl | hz
      · rfl
      · cases hz
  exact ⟨m ++ [.lst [.int c, .int b]], e, ⟨c, b, by simp⟩, by simp⟩
end
section
def er (c f : Str) (v : Vl) : Vl := .err c [(f, v)]
def E14 (v : Vl) : List Vl := [er "BadRow" "row" v, er "BadUnique" "unique" v, er "BadColumn" "column" v, er "BadValue" "value" v, er "BadFilter" "thing" v, er "BadMode" "thing" v, er "BadName" "name" v, er "Twice" "name" v, er "BadStatement" "place" v, er "BadArguments" "arguments" v, er "BadMend" "mend" v, er "BadText" "line" v, er "BadCommand" "command" v, er "Unlike" "what" v]
theorem values_ok (v : Vl) (m : Mem) : c_law_values_1 [v] [] m = some (.ok (.lst [.lst (E14 v), .lst (List.replicate 14 v)]), m) := by rfl
theorem named_ok (v : Vl) (m : Mem) : ∃ L, c_law_named_1 [v] [] m = some (.ok (.lst [.lst L, .lst (List.replicate 20 v)]), m) := ⟨_, rfl⟩
end
section
def things : List Vl := [.non, .bl true, .bl false, .int 0, .int (-1), .int 10000000000000000000, .str "", .str "a", .str "any text", .tup [], .tup [.int 1, .str "a"], .lst [], .lst [.lst [.int 1], .tup [.str "b"]], .int 999]
structure Pv (v : Vl) : Prop where
  sm : ∃ d, toD v = some d ∧ Sm d 3 300
theorem pv_of {v : Vl} (d : PyData) (h : toD v = some d) (h1 : PyData.canLay0 d = true) (h2 : PyData.depth d ≤ 3) (h3 : PyData.showable d = true) (h4 : PyData.hasDict d = false) (h5 : shB d ≤ 300) : Pv v := ⟨⟨d, h, ⟨h1, h2, h3, h4, h5⟩⟩⟩
theorem things_pv : ∀ v ∈ things, Pv v := by
  intro v hv
  unfold things at hv
  simp only [List.mem_cons, List.not_mem_nil, or_false] at hv
  rcases hv with rfl | rfl | rfl | rfl | rfl | rfl | rfl | rfl | rfl | rfl | rfl | rfl | rfl | rfl <;>
    exact pv_of _ rfl (by decide +kernel) (by decide +kernel) (by decide +kernel) (by decide +kernel) (by decide +kernel)
theorem rep_ok {L : List Vl} (h : ∀ v ∈ L, Pv v) (hl : L.length ≤ 30) : ∃ t, ∀ m, reprF [.lst L] m = some (.str t, m) := by
  have key : ∀ L : List Vl, (∀ v ∈ L, Pv v) → ∃ ds, toDs L = some ds ∧ ds.length = L.length ∧ ∀ d ∈ ds, Sm d 3 300 := fun L => by
    induction L with
    | nil => exact fun _ => ⟨[], rfl, rfl, fun d h => nomatch h⟩
    | cons x L ih =>
      intro hx
      obtain ⟨d, a1, a2⟩ := (hx x (by simp)).sm
      obtain ⟨ds, h1, h2, h3⟩ := ih fun y hy => hx y (List.mem_cons_of_mem _ hy)
      refine ⟨d :: ds, toDs_cons a1 h1, by rw [List.length_cons, List.length_cons, h2], fun e he => ?_⟩
      rcases List.mem_cons.mp he with rfl | he
      · exact a2
      · exact h3 e he
  obtain ⟨ds, d1, d2, d3⟩ := key L h
  refine ⟨_, fun m => repr_sm (show toDm m (.lst L) = some (.list ds) from toD_lst d1) (sm_list d3) (by decide) ?_⟩
  rw [d2]
  have := Nat.mul_le_mul_right 302 hl
  omega
theorem pop_all : ∀ i : Fin 14, (match seqIndex? (i.val : Int) 14 with
    | some k => decide (k = i.val)
    | none => false) = true := by decide +kernel
theorem pop_ok {m1 : Mem} {f k : Nat} {L : List Vl} {z : Int} {v : Vl} {c : Nat} (at1 : m1[f]? = some (.lst L)) (hl : L.length = c) (h0 : 0 ≤ z) (h1 : z < 1000) (hp : seqIndex? z c = some k) (hv : L[k]? = some v) : lstM popH (.obj f) [.int z] m1 = some (v, m1.set f (.lst (L.eraseIdx k))) := by
  have hc : (decide (-(2 ^ 63) ≤ z) && decide (z < 2 ^ 63)) = true := by
    rw [Bool.and_eq_true, decide_eq_true_eq, decide_eq_true_eq]
    omega
  unfold lstM popH
  simp only [at1, hc, if_true]
  rw [hl, hp]
  simp only [hv]
theorem things_ok {n : Nat} {m : Mem} (h : Bag n m) : ∃ (v u : Vl) (m' : Mem), v ∈ things ∧ u ∈ things ∧ c_law_things_1 [.obj n] [] m = some (.ok (.lst [v, u]), m') ∧ Bag n m' := by
  have hn := h.lt
  have hb : Bag n (m ++ [.lst things]) := h.app _
  obtain ⟨i, m1, hi, t1, n1⟩ := take_ok hb (k := 14) (by decide) (by decide)
  have t1 : c_law_take_2 [.obj n, .int 14] [] (m ++ [.lst things]) = some (.ok (.int (i : Int)), m1) := t1
  have at0 : (m ++ [Cell.lst things])[m.length]? = some (.lst things) := by simp
  have at1 : m1[m.length]? = some (.lst things) := (n1.oth _ (by omega)).trans at0
  have il : i < things.length := hi
  obtain ⟨v, hv⟩ : ∃ v, things[i]? = some v := ⟨_, List.getElem?_eq_getElem il⟩
  have hvm : v ∈ things := List.mem_of_getElem? hv
  have hp : seqIndex? (i : Int) 14 = some i := by
    have := pop_all ⟨i, hi⟩
    dsimp only at this
    cases hs : seqIndex? (i : Int) 14 with
    | none =>
      rw [hs] at this
      exact nomatch this
    | some k =>
      rw [hs] at this
      have := of_decide_eq_true this
      rw [this]
  have pop : lstM popH (.obj m.length) [.int (i : Int)] m1 = some (v, m1.set m.length (.lst (things.eraseIdx i))) := pop_ok at1 rfl (by omega) (by omega) hp hv
  have ty := tyM_obj at1
  have ty0 := tyM_obj at0
  have at2 : (m1.set m.length (.lst (things.eraseIdx i)))[m.length]? = some (.lst (things.eraseIdx i)) := get_set at1
  have b2 : Bag n (m1.set m.length (.lst (things.eraseIdx i))) := n1.bag.set (by omega) _
  have le : (things.eraseIdx i).length = 13 := by
    rw [List.length_eraseIdx_of_lt il]
    rfl
  obtain ⟨u, m3, hu, e3, n3⟩ := of_obj b2 (p := m.length) (by omega) at2 (by omega) (by omega)
  refine ⟨v, u, m3, hvm, List.mem_of_mem_eraseIdx hu, ?_, n3.bag⟩
  have b0 : D_law_things_0 [some (.obj n), none, none] m = some (.nx [some (.obj n), some (.obj m.length), none], m ++ [.lst things]) := by rfl
  have b1 : D_law_things_1 [some (.obj n), some (.obj m.length), none] (m ++ [.lst things]) = some (.nx [some (.obj n), some (.obj m.length), some v], m1.set m.length (.lst (things.eraseIdx i))) := by
    have ll : lenF [.obj m.length] (m ++ [.lst things]) = some (.int 14, m ++ [.lst things]) := lenF_obj at0
    unfold D_law_things_1
    simp only [dAsg_ap, dM_ap, dVar_s, dVar_z, bindR_ok, ty0, if_true, dCons_ap, dCall_ap, dB_ap, ll, okR_s, dNone_ap, List.length_cons, List.length_nil, and_self, t1, pop, bindS_ok, List.set]
  have z2 : (2 : Nat) ≤ sizeLine := le_size (by decide)
  show bodyD 3 D_law_things [.obj n] m = _
  refine body_rt ?_
  rw [show startZ 3 [.obj n] = [some (.obj n), none, none] from rfl]
  unfold D_law_things
  refine seq_nx b0 (seq_nx b1 ?_)
  unfold D_law_things_2
  simp only [dRet_ap, dFrz_ap, dLst_ap, dCons_ap, dVar_s, dVar_z, bindR_ok, dCall_ap, dNone_ap, List.length_cons, List.length_nil, and_self, if_true, e3, z2, bindS_ok]
end
section
def E7 (v u : Vl) : List Vl := [er "NoRow" "key" v, er "Unbound" "name" v, er "KeyTaken" "key" v, er "Taken" "column" v, .err "Refused" [("place", v), ("why", u)], .err "NotOpen" [], .err "StillOpen" []]
def E9 (v u : Vl) : List Vl := E7 v u ++ [er "TooMany" "limit" v, er "TooWide" "limit" v]
def bas : Vl := .lst [.int 0, .int 0, .int 0, .int 0, .int 0, .int 0, .int 0, .int 0, .int 0, .int 0, .int 0, .int 0, .int 0, .int 0, .int 1, .int 1, .int 2, .int 2, .int 2, .int 2, .int 2, .int 3, .int 3]
def checkD : DS := dSeq D_law_0_13_0 D_law_0_13_1
theorem enum_all {P : Vl → Prop} (v u : Vl) (h : ∀ k : Fin 23, ∀ x, (E14 v ++ E9 v u)[k.val]? = some x → P (.tup [.int (k.val : Int), x])) : ∀ x ∈ enumZ (E14 v ++ E9 v u), P x := fun x hx => by
  obtain ⟨i, hi⟩ := List.mem_iff_getElem?.mp hx
  obtain ⟨y, hy, rfl⟩ := enumZ_get hi
  have := (List.getElem?_eq_some_iff.mp hy).1
  exact h ⟨i, this⟩ y hy
theorem one0 (v u : Vl) (e0 e1 e2 e3 e4 e6 e7 e8 e9 e10 e11 e12 e15 : Option Vl) (m : Mem) : checkD [e0, e1, e2, e3, e4, some bas, e6, e7, e8, e9, e10, e11, e12, some (.int 0), some (er "BadRow" "row" v), e15] m = some (.nx [e0, e1, e2, e3, e4, some bas, e6, e7, e8, e9, e10, e11, e12, some (.int 0), some (er "BadRow" "row" v), e15], m) := by rfl
theorem one1 (v u : Vl) (e0 e1 e2 e3 e4 e6 e7 e8 e9 e10 e11 e12 e15 : Option Vl) (m : Mem) : checkD [e0, e1, e2, e3, e4, some bas, e6, e7, e8, e9, e10, e11, e12, some (.int 1), some (er "BadUnique" "unique" v), e15] m = some (.nx [e0, e1, e2, e3, e4, some bas, e6, e7, e8, e9, e10, e11, e12, some (.int 1), some (er "BadUnique" "unique" v), e15], m) := by rfl
theorem one2 (v u : Vl) (e0 e1 e2 e3 e4 e6 e7 e8 e9 e10 e11 e12 e15 : Option Vl) (m : Mem) : checkD [e0, e1, e2, e3, e4, some bas, e6, e7, e8, e9, e10, e11, e12, some (.int 2), some (er "BadColumn" "column" v), e15] m = some (.nx [e0, e1, e2, e3, e4, some bas, e6, e7, e8, e9, e10, e11, e12, some (.int 2), some (er "BadColumn" "column" v), e15], m) := by rfl
theorem one3 (v u : Vl) (e0 e1 e2 e3 e4 e6 e7 e8 e9 e10 e11 e12 e15 : Option Vl) (m : Mem) : checkD [e0, e1, e2, e3, e4, some bas, e6, e7, e8, e9, e10, e11, e12, some (.int 3), some (er "BadValue" "value" v), e15] m = some (.nx [e0, e1, e2, e3, e4, some bas, e6, e7, e8, e9, e10, e11, e12, some (.int 3), some (er "BadValue" "value" v), e15], m) := by rfl
theorem one4 (v u : Vl) (e0 e1 e2 e3 e4 e6 e7 e8 e9 e10 e11 e12 e15 : Option Vl) (m : Mem) : checkD [e0, e1, e2, e3, e4, some bas, e6, e7, e8, e9, e10, e11, e12, some (.int 4), some (er "BadFilter" "thing" v), e15] m = some (.nx [e0, e1, e2, e3, e4, some bas, e6, e7, e8, e9, e10, e11, e12, some (.int 4), some (er "BadFilter" "thing" v), e15], m) := by rfl
theorem one5 (v u : Vl) (e0 e1 e2 e3 e4 e6 e7 e8 e9 e10 e11 e12 e15 : Option Vl) (m : Mem) : checkD [e0, e1, e2, e3, e4, some bas, e6, e7, e8, e9, e10, e11, e12, some (.int 5), some (er "BadMode" "thing" v), e15] m = some (.nx [e0, e1, e2, e3, e4, some bas, e6, e7, e8, e9, e10, e11, e12, some (.int 5), some (er "BadMode" "thing" v), e15], m) := by rfl
theorem one6 (v u : Vl) (e0 e1 e2 e3 e4 e6 e7 e8 e9 e10 e11 e12 e15 : Option Vl) (m : Mem) : checkD [e0, e1, e2, e3, e4, some bas, e6, e7, e8, e9, e10, e11, e12, some (.int 6), some (er "BadName" "name" v), e15] m = some (.nx [e0, e1, e2, e3, e4, some bas, e6, e7, e8, e9, e10, e11, e12, some (.int 6), some (er "BadName" "name" v), e15], m) := by rfl
theorem one7 (v u : Vl) (e0 e1 e2 e3 e4 e6 e7 e8 e9 e10 e11 e12 e15 : Option Vl) (m : Mem) : checkD [e0, e1, e2, e3, e4, some bas, e6, e7, e8, e9, e10, e11, e12, some (.int 7), some (er "Twice" "name" v), e15] m = some (.nx [e0, e1, e2, e3, e4, some bas, e6, e7, e8, e9, e10, e11, e12, some (.int 7), some (er "Twice" "name" v), e15], m) := by rfl
theorem one8 (v u : Vl) (e0 e1 e2 e3 e4 e6 e7 e8 e9 e10 e11 e12 e15 : Option Vl) (m : Mem) : checkD [e0, e1, e2, e3, e4, some bas, e6, e7, e8, e9, e10, e11, e12, some (.int 8), some (er "BadStatement" "place" v), e15] m = some (.nx [e0, e1, e2, e3, e4, some bas, e6, e7, e8, e9, e10, e11, e12, some (.int 8), some (er "BadStatement" "place" v), e15], m) := by rfl
theorem one9 (v u : Vl) (e0 e1 e2 e3 e4 e6 e7 e8 e9 e10 e11 e12 e15 : Option Vl) (m : Mem) : checkD [e0, e1, e2, e3, e4, some bas, e6, e7, e8, e9, e10, e11, e12, some (.int 9), some (er "BadArguments" "arguments" v), e15] m = some (.nx [e0, e1, e2, e3, e4, some bas, e6, e7, e8, e9, e10, e11, e12, some (.int 9), some (er "BadArguments" "arguments" v), e15], m) := by rfl
theorem one10 (v u : Vl) (e0 e1 e2 e3 e4 e6 e7 e8 e9 e10 e11 e12 e15 : Option Vl) (m : Mem) : checkD [e0, e1, e2, e3, e4, some bas, e6, e7, e8, e9, e10, e11, e12, some (.int 10), some (er "BadMend" "mend" v), e15] m = some (.nx [e0, e1, e2, e3, e4, some bas, e6, e7, e8, e9, e10, e11, e12, some (.int 10), some (er "BadMend" "mend" v), e15], m) := by rfl
theorem one11 (v u : Vl) (e0 e1 e2 e3 e4 e6 e7 e8 e9 e10 e11 e12 e15 : Option Vl) (m : Mem) : checkD [e0, e1, e2, e3, e4, some bas, e6, e7, e8, e9, e10, e11, e12, some (.int 11), some (er "BadText" "line" v), e15] m = some (.nx [e0, e1, e2, e3, e4, some bas, e6, e7, e8, e9, e10, e11, e12, some (.int 11), some (er "BadText" "line" v), e15], m) := by rfl
theorem one12 (v u : Vl) (e0 e1 e2 e3 e4 e6 e7 e8 e9 e10 e11 e12 e15 : Option Vl) (m : Mem) : checkD [e0, e1, e2, e3, e4, some bas, e6, e7, e8, e9, e10, e11, e12, some (.int 12), some (er "BadCommand" "command" v), e15] m = some (.nx [e0, e1, e2, e3, e4, some bas, e6, e7, e8, e9, e10, e11, e12, some (.int 12), some (er "BadCommand" "command" v), e15], m) := by rfl
theorem one13 (v u : Vl) (e0 e1 e2 e3 e4 e6 e7 e8 e9 e10 e11 e12 e15 : Option Vl) (m : Mem) : checkD [e0, e1, e2, e3, e4, some bas, e6, e7, e8, e9, e10, e11, e12, some (.int 13), some (er "Unlike" "what" v), e15] m = some (.nx [e0, e1, e2, e3, e4, some bas, e6, e7, e8, e9, e10, e11, e12, some (.int 13), some (er "Unlike" "what" v), e15], m) := by rfl
theorem one14 (v u : Vl) (e0 e1 e2 e3 e4 e6 e7 e8 e9 e10 e11 e12 e15 : Option Vl) (m : Mem) : checkD [e0, e1, e2, e3, e4, some bas, e6, e7, e8, e9, e10, e11, e12, some (.int 14), some (er "NoRow" "key" v), e15] m = some (.nx [e0, e1, e2, e3, e4, some bas, e6, e7, e8, e9, e10, e11, e12, some (.int 14), some (er "NoRow" "key" v), e15], m) := by rfl
theorem one15 (v u : Vl) (e0 e1 e2 e3 e4 e6 e7 e8 e9 e10 e11 e12 e15 : Option Vl) (m : Mem) : checkD [e0, e1, e2, e3, e4, some bas, e6, e7, e8, e9, e10, e11, e12, some (.int 15), some (er "Unbound" "name" v), e15] m = some (.nx [e0, e1, e2, e3, e4, some bas, e6, e7, e8, e9, e10, e11, e12, some (.int 15), some (er "Unbound" "name" v), e15], m) := by rfl
theorem one16 (v u : Vl) (e0 e1 e2 e3 e4 e6 e7 e8 e9 e10 e11 e12 e15 : Option Vl) (m : Mem) : checkD [e0, e1, e2, e3, e4, some bas, e6, e7, e8, e9, e10, e11, e12, some (.int 16), some (er "KeyTaken" "key" v), e15] m = some (.nx [e0, e1, e2, e3, e4, some bas, e6, e7, e8, e9, e10, e11, e12, some (.int 16), some (er "KeyTaken" "key" v), e15], m) := by rfl
theorem one17 (v u : Vl) (e0 e1 e2 e3 e4 e6 e7 e8 e9 e10 e11 e12 e15 : Option Vl) (m : Mem) : checkD [e0, e1, e2, e3, e4, some bas, e6, e7, e8, e9, e10, e11, e12, some (.int 17), some (er "Taken" "column" v), e15] m = some (.nx [e0, e1, e2, e3, e4, some bas, e6, e7, e8, e9, e10, e11, e12, some (.int 17), some (er "Taken" "column" v), e15], m) := by rfl
theorem one18 (v u : Vl) (e0 e1 e2 e3 e4 e6 e7 e8 e9 e10 e11 e12 e15 : Option Vl) (m : Mem) : checkD [e0, e1, e2, e3, e4, some bas, e6, e7, e8, e9, e10, e11, e12, some (.int 18), some (.err "Refused" [("place", v), ("why", u)]), e15] m = some (.nx [e0, e1, e2, e3, e4, some bas, e6, e7, e8, e9, e10, e11, e12, some (.int 18), some (.err "Refused" [("place", v), ("why", u)]), e15], m) := by rfl
theorem one19 (v u : Vl) (e0 e1 e2 e3 e4 e6 e7 e8 e9 e10 e11 e12 e15 : Option Vl) (m : Mem) : checkD [e0, e1, e2, e3, e4, some bas, e6, e7, e8, e9, e10, e11, e12, some (.int 19), some (.err "NotOpen" []), e15] m = some (.nx [e0, e1, e2, e3, e4, some bas, e6, e7, e8, e9, e10, e11, e12, some (.int 19), some (.err "NotOpen" []), e15], m) := by rfl
theorem one20 (v u : Vl) (e0 e1 e2 e3 e4 e6 e7 e8 e9 e10 e11 e12 e15 : Option Vl) (m : Mem) : checkD [e0, e1, e2, e3, e4, some bas, e6, e7, e8, e9, e10, e11, e12, some (.int 20), some (.err "StillOpen" []), e15] m = some (.nx [e0, e1, e2, e3, e4, some bas, e6, e7, e8, e9, e10, e11, e12, some (.int 20), some (.err "StillOpen" []), e15], m) := by rfl
theorem one21 (v u : Vl) (e0 e1 e2 e3 e4 e6 e7 e8 e9 e10 e11 e12 e15 : Option Vl) (m : Mem) : checkD [e0, e1, e2, e3, e4, some bas, e6, e7, e8, e9, e10, e11, e12, some (.int 21), some (er "TooMany" "limit" v), e15] m = some (.nx [e0, e1, e2, e3, e4, some bas, e6, e7, e8, e9, e10, e11, e12, some (.int 21), some (er "TooMany" "limit" v), e15], m) := by rfl
theorem one22 (v u : Vl) (e0 e1 e2 e3 e4 e6 e7 e8 e9 e10 e11 e12 e15 : Option Vl) (m : Mem) : checkD [e0, e1, e2, e3, e4, some bas, e6, e7, e8, e9, e10, e11, e12, some (.int 22), some (er "TooWide" "limit" v), e15] m = some (.nx [e0, e1, e2, e3, e4, some bas, e6, e7, e8, e9, e10, e11, e12, some (.int 22), some (er "TooWide" "limit" v), e15], m) := by rfl
theorem check_all (v u : Vl) (e0 e1 e2 e3 e4 e6 e7 e8 e9 e10 e11 e12 e15 : Option Vl) (m : Mem) : ∀ k : Fin 23, ∀ x, (E14 v ++ E9 v u)[k.val]? = some x → checkD [e0, e1, e2, e3, e4, some bas, e6, e7, e8, e9, e10, e11, e12, some (.int (k.val : Int)), some x, e15] m = some (.nx [e0, e1, e2, e3, e4, some bas, e6, e7, e8, e9, e10, e11, e12, some (.int (k.val : Int)), some x, e15], m) := by
  intro ⟨k, hk⟩ x hx
  match k, hk, hx with
  | 0, _, hx =>
    cases hx
    exact one0 v u e0 e1 e2 e3 e4 e6 e7 e8 e9 e10 e11 e12 e15 m
  | 1, _, hx =>
    cases hx
    exact one1 v u e0 e1 e2 e3 e4 e6 e7 e8 e9 e10 e11 e12 e15 m
  | 2, _, hx =>
    cases hx
    exact one2 v u e0 e1 e2 e3 e4 e6 e7 e8 e9 e10 e11 e12 e15 m
  | 3, _, hx =>
    cases hx
    exact one3 v u e0 e1 e2 e3 e4 e6 e7 e8 e9 e10 e11 e12 e15 m
  | 4, _, hx =>
    cases hx
    exact one4 v u e0 e1 e2 e3 e4 e6 e7 e8 e9 e10 e11 e12 e15 m
  | 5, _, hx =>
    cases hx
    exact one5 v u e0 e1 e2 e3 e4 e6 e7 e8 e9 e10 e11 e12 e15 m
  | 6, _, hx =>
    cases hx
    exact one6 v u e0 e1 e2 e3 e4 e6 e7 e8 e9 e10 e11 e12 e15 m
  | 7, _, hx =>
    cases hx
    exact one7 v u e0 e1 e2 e3 e4 e6 e7 e8 e9 e10 e11 e12 e15 m
  | 8, _, hx =>
    cases hx
    exact one8 v u e0 e1 e2 e3 e4 e6 e7 e8 e9 e10 e11 e12 e15 m
  | 9, _, hx =>
    cases hx
    exact one9 v u e0 e1 e2 e3 e4 e6 e7 e8 e9 e10 e11 e12 e15 m
  | 10, _, hx =>
    cases hx
    exact one10 v u e0 e1 e2 e3 e4 e6 e7 e8 e9 e10 e11 e12 e15 m
  | 11, _, hx =>
    cases hx
    exact one11 v u e0 e1 e2 e3 e4 e6 e7 e8 e9 e10 e11 e12 e15 m
  | 12, _, hx =>
    cases hx
    exact one12 v u e0 e1 e2 e3 e4 e6 e7 e8 e9 e10 e11 e12 e15 m
  | 13, _, hx =>
    cases hx
    exact one13 v u e0 e1 e2 e3 e4 e6 e7 e8 e9 e10 e11 e12 e15 m
  | 14, _, hx =>
    cases hx
    exact one14 v u e0 e1 e2 e3 e4 e6 e7 e8 e9 e10 e11 e12 e15 m
  | 15, _, hx =>
    cases hx
    exact one15 v u e0 e1 e2 e3 e4 e6 e7 e8 e9 e10 e11 e12 e15 m
  | 16, _, hx =>
    cases hx
    exact one16 v u e0 e1 e2 e3 e4 e6 e7 e8 e9 e10 e11 e12 e15 m
  | 17, _, hx =>
    cases hx
    exact one17 v u e0 e1 e2 e3 e4 e6 e7 e8 e9 e10 e11 e12 e15 m
  | 18, _, hx =>
    cases hx
    exact one18 v u e0 e1 e2 e3 e4 e6 e7 e8 e9 e10 e11 e12 e15 m
  | 19, _, hx =>
    cases hx
    exact one19 v u e0 e1 e2 e3 e4 e6 e7 e8 e9 e10 e11 e12 e15 m
  | 20, _, hx =>
    cases hx
    exact one20 v u e0 e1 e2 e3 e4 e6 e7 e8 e9 e10 e11 e12 e15 m
  | 21, _, hx =>
    cases hx
    exact one21 v u e0 e1 e2 e3 e4 e6 e7 e8 e9 e10 e11 e12 e15 m
  | 22, _, hx =>
    cases hx
    exact one22 v u e0 e1 e2 e3 e4 e6 e7 e8 e9 e10 e11 e12 e15 m
end
section
theorem pos_int {n : Nat} {x : Vl} (h : x ∈ intsZ 0 n) : ∃ t : Int, 0 ≤ t ∧ x = .int t := by
  unfold intsZ at h
  obtain ⟨i, _, rfl⟩ := List.mem_map.mp h
  exact ⟨_, by omega, rfl⟩
theorem glst2 (i j : Nat) (a b : Vl) (env : Ev) (m : Mem) : gLstD (gsCons (gVar i) (gsCons (gVar j) gsNil)) (.lst [a, b]) env m = some ((env.set i (some a)).set j (some b), m) := by rfl
theorem ne_same {da db : DE} {env : Ev} {m : Mem} {L : List Vl} (h1 : da env m = some (.ok (.lst L), m)) (h2 : db env m = some (.ok (.lst L), m)) (h : ∀ v ∈ L, Pv v) (hl : L.length ≤ 30) : b2 neF (dB reprF (dCons da (fun _ m => some (.ok [], m)))) (dB reprF (dCons db (fun _ m => some (.ok [], m)))) env m = some (.ok false, m) := by
  obtain ⟨t, ht⟩ := rep_ok h hl
  rw [b2_ap, dB_ap, dCons_ap, h1]
  simp only [bindR_ok, ht, okR_s, dB_ap, dCons_ap, h2, neF_str, beq_self_eq_true, Bool.not_true]
theorem rep_pv {v : Vl} (h : Pv v) (n : Nat) : ∀ w ∈ List.replicate n v, Pv w := fun w hw => by
  rw [(List.mem_replicate.mp hw).2]
  exact h
section
variable {v u : Vl} (hv : Pv v) (hu : Pv u) (m : Mem) (e0 e1 e2 e3 e4 e5 e12 e13 e14 e15 : Option Vl)
include hv hu
theorem s4 : D_law_0_4 [e0, e1, e2, e3, e4, e5, some v, some u, some (.lst (E14 v)), some (.lst (List.replicate 14 v)), some (.lst (E14 u)), some (.lst (List.replicate 14 u)), e12, e13, e14, e15] m = some (.nx [e0, e1, e2, e3, e4, e5, some v, some u, some (.lst (E14 v)), some (.lst (List.replicate 14 v)), some (.lst (E14 u)), some (.lst (List.replicate 14 u)), e12, e13, e14, e15], m) := by
  unfold D_law_0_4
  rw [dIfS_ap, tOr2_ap, ne_same (L := List.replicate 14 v) rfl rfl (rep_pv hv 14) (by simp)]
  simp only [bindR_ok, Bool.false_eq_true, if_false]
  rw [ne_same (L := List.replicate 14 u) rfl rfl (rep_pv hu 14) (by simp)]
  rfl
theorem s7 (e8 e9 e10 e11 : Option Vl) : D_law_0_7 [e0, e1, e2, some (.lst (E9 v u)), e4, e5, some v, some u, e8, e9, e10, e11, e12, e13, e14, e15] m = some (.nx [e0, e1, e2, some (.lst (E9 v u)), e4, e5, some v, some u, e8, e9, e10, e11, e12, e13, e14, e15], m) := by
  unfold D_law_0_7
  rw [dIfS_ap, ne_same (L := List.replicate 6 v) rfl rfl (rep_pv hv 6) (by simp)]
  rfl
theorem s9 (e8 e9 e10 e11 : Option Vl) : D_law_0_9 [e0, e1, e2, some (.lst (E9 v u)), some (.err "Refused" [("place", u), ("why", v)]), e5, some v, some u, e8, e9, e10, e11, e12, e13, e14, e15] m = some (.nx [e0, e1, e2, some (.lst (E9 v u)), some (.err "Refused" [("place", u), ("why", v)]), e5, some v, some u, e8, e9, e10, e11, e12, e13, e14, e15], m) := by
  unfold D_law_0_9
  rw [dIfS_ap, ne_same (L := [v, u, u, v]) rfl rfl (fun w hw => by
    simp only [List.mem_cons, List.not_mem_nil, or_false] at hw
    rcases hw with rfl | rfl | rfl | rfl <;> assumption) (by show 4 ≤ 30; decide)]
  rfl
theorem s11 (e8 e10 e11 : Option Vl) : D_law_0_11 [e0, e1, e2, e3, e4, e5, some v, some u, e8, some (.lst (List.replicate 20 u)), e10, e11, e12, e13, e14, e15] m = some (.nx [e0, e1, e2, e3, e4, e5, some v, some u, e8, some (.lst (List.replicate 20 u)), e10, e11, e12, e13, e14, e15], m) := by
  unfold D_law_0_11
  rw [dIfS_ap, tOr2_ap, ne_same (L := List.replicate 20 u) rfl rfl (rep_pv hu 20) (by simp)]
  simp only [bindR_ok, Bool.false_eq_true, if_false]
  have ix : ixA (.lst [.lst (E14 v), .lst (List.replicate 14 v)]) (.int 1) m = some (.lst (List.replicate 14 v), m) := ixA_lst rfl
  have mu : mulA (.lst [v]) (.int 14) m = some (.lst (List.replicate 14 v), m) := by rfl
  have z1 : (1 : Nat) ≤ sizeLine := le_size (by decide)
  have c1 : (d2 ixA (dCall 1 0 c_law_values_1 (dCons (dVar 6) (fun _ m => some (.ok [], m))) dNone) (dC (.int 1))) [e0, e1, e2, e3, e4, e5, some v, some u, e8, some (.lst (List.replicate 20 u)), e10, e11, e12, e13, e14, e15] m = some (.ok (.lst (List.replicate 14 v)), m) := by
    simp only [d2_ap, dCall_ap, dCons_ap, dVar_s, dVar_z, bindR_ok, dNone_ap, List.length_cons, List.length_nil, and_self, if_true, values_ok, dC_ap, ix, okR_s]
  have c2 : (d2 mulA (dFrz (dLst (dCons (dVar 6) (fun _ m => some (.ok [], m))))) (dC (.int 14))) [e0, e1, e2, e3, e4, e5, some v, some u, e8, some (.lst (List.replicate 20 u)), e10, e11, e12, e13, e14, e15] m = some (.ok (.lst (List.replicate 14 v)), m) := by
    simp only [d2_ap, dFrz_ap, dLst_ap, dCons_ap, dVar_s, dVar_z, bindR_ok, List.length_cons, List.length_nil, z1, if_true, dC_ap, mu, okR_s]
  rw [ne_same (L := List.replicate 14 v) c2 c1 (rep_pv hv 14) (by simp)]
  rfl
end
theorem ad13 (v u : Vl) (m : Mem) : addA (.lst (E14 v)) (.lst (E9 v u)) m = some (.lst (E14 v ++ E9 v u), m) := addA_lsts (by
    rw [show (E14 v).length = 14 from rfl, show (E9 v u).length = 9 from rfl]
    exact le_size (by decide))
theorem d13 {A B : List Vl} {m : Mem} {r : Option (Fl × Mem)} (ad : addA (.lst A) (.lst B) m = some (.lst (A ++ B), m)) (e0 e1 e2 e4 e5 e6 e7 e9 e10 e11 e12 e13 e14 e15 : Option Vl) (h1 : forL (gTupD (gsCons (gVar 13) (gsCons (gVar 14) gsNil))) checkD (enumZ (A ++ B)) [e0, e1, e2, some (.lst B), e4, e5, e6, e7, some (.lst A), e9, e10, e11, e12, e13, e14, e15] m = r) : D_law_0_13 [e0, e1, e2, some (.lst B), e4, e5, e6, e7, some (.lst A), e9, e10, e11, e12, e13, e14, e15] m = r := by
  rw [show D_law_0_13 = dFor (iEnm (dCons (d2 addA (dVar 8) (dVar 3)) (fun _ m => some (.ok [], m)))) (gTupD (gsCons (gVar 13) (gsCons (gVar 14) gsNil))) checkD from rfl]
  rw [dFor_ap, iEnm_ap]
  simp only [dCons_ap, d2_ap, dVar_s, dVar_z, bindR_ok, ad, okR_s, staD_lst, bindS_ok]
  exact h1
theorem l13 {A B L : List Vl} {m : Mem} (e0 e1 e2 e4 e5 e6 e7 e9 e10 e11 e12 e13 e14 e15 : Option Vl) (h : ∀ x ∈ L, ∃ (k : Int) (y : Vl), x = .tup [.int k, y] ∧ checkD [e0, e1, e2, some (.lst B), e4, e5, e6, e7, some (.lst A), e9, e10, e11, e12, some (.int k), some y, e15] m = some (.nx [e0, e1, e2, some (.lst B), e4, e5, e6, e7, some (.lst A), e9, e10, e11, e12, some (.int k), some y, e15], m)) : ∃ f13 f14, forL (gTupD (gsCons (gVar 13) (gsCons (gVar 14) gsNil))) checkD L [e0, e1, e2, some (.lst B), e4, e5, e6, e7, some (.lst A), e9, e10, e11, e12, e13, e14, e15] m = some (.nx [e0, e1, e2, some (.lst B), e4, e5, e6, e7, some (.lst A), e9, e10, e11, e12, f13, f14, e15], m) := by
  induction L generalizing e13 e14 with
  | nil => exact ⟨e13, e14, rfl⟩
  | cons x L ih =>
    obtain ⟨k, y, rfl, hb⟩ := h x (by simp)
    obtain ⟨f13, f14, hr⟩ := ih (some (.int k)) (some y) fun z hz => h z (List.mem_cons_of_mem _ hz)
    refine ⟨f13, f14, ?_⟩
    have hg : gTupD (gsCons (gVar 13) (gsCons (gVar 14) gsNil)) (.tup [.int k, y]) [e0, e1, e2, some (.lst B), e4, e5, e6, e7, some (.lst A), e9, e10, e11, e12, e13, e14, e15] m = some ([e0, e1, e2, some (.lst B), e4, e5, e6, e7, some (.lst A), e9, e10, e11, e12, some (.int k), some y, e15], m) := rfl
    unfold forL
    rw [hg]
    simp only [hb]
    exact hr
theorem s13 (v u : Vl) (m : Mem) (e0 e1 e2 e4 e6 e7 e9 e10 e11 e12 e13 e14 e15 : Option Vl) : ∃ f13 f14, D_law_0_13 [e0, e1, e2, some (.lst (E9 v u)), e4, some bas, e6, e7, some (.lst (E14 v)), e9, e10, e11, e12, e13, e14, e15] m = some (.nx [e0, e1, e2, some (.lst (E9 v u)), e4, some bas, e6, e7, some (.lst (E14 v)), e9, e10, e11, e12, f13, f14, e15], m) := by
  have key : ∀ x ∈ enumZ (E14 v ++ E9 v u), ∃ (k : Int) (y : Vl), x = .tup [.int k, y] ∧ checkD [e0, e1, e2, some (.lst (E9 v u)), e4, some bas, e6, e7, some (.lst (E14 v)), e9, e10, e11, e12, some (.int k), some y, e15] m = some (.nx [e0, e1, e2, some (.lst (E9 v u)), e4, some bas, e6, e7, some (.lst (E14 v)), e9, e10, e11, e12, some (.int k), some y, e15], m) :=
    enum_all v u fun k x hk => ⟨_, _, rfl, check_all v u e0 e1 e2 (some (.lst (E9 v u))) e4 e6 e7 (some (.lst (E14 v))) e9 e10 e11 e12 e15 m k x hk⟩
  obtain ⟨f13, f14, h1⟩ := l13 (A := E14 v) (B := E9 v u) e0 e1 e2 e4 (some bas) e6 e7 e9 e10 e11 e12 e13 e14 e15 key
  exact ⟨f13, f14, d13 (ad13 v u m) e0 e1 e2 e4 (some bas) e6 e7 e9 e10 e11 e12 e13 e14 e15 h1⟩
theorem turn_ok {n : Nat} {m : Mem} (hb : Bag n m) (e0 e1 e3 e4 e5 e6 e7 e8 e9 e10 e11 e12 e13 e14 e15 : Option Vl) : ∃ (f3 f4 f5 f6 f7 f8 f9 f10 f11 f12 f13 f14 : Option Vl) (m' : Mem), (dSeq D_law_0_1 (dSeq D_law_0_2 (dSeq D_law_0_3 (dSeq D_law_0_4 (dSeq D_law_0_5 (dSeq D_law_0_6 (dSeq D_law_0_7 (dSeq D_law_0_8 (dSeq D_law_0_9 (dSeq D_law_0_10 (dSeq D_law_0_11 (dSeq D_law_0_12 D_law_0_13)))))))))))) [e0, e1, some (.obj n), e3, e4, e5, e6, e7, e8, e9, e10, e11, e12, e13, e14, e15] m = some (.nx [e0, e1, some (.obj n), f3, f4, f5, f6, f7, f8, f9, f10, f11, f12, f13, f14, e15], m') := by
  obtain ⟨v, u, m1, vt, ut, t1, b1⟩ := things_ok hb
  have hv := things_pv v vt
  have hu := things_pv u ut
  have a1 : D_law_0_1 [e0, e1, some (.obj n), e3, e4, e5, e6, e7, e8, e9, e10, e11, e12, e13, e14, e15] m = some (.nx [e0, e1, some (.obj n), e3, e4, e5, some v, some u, e8, e9, e10, e11, e12, e13, e14, e15], m1) := by
    unfold D_law_0_1
    simp only [dAsgG_ap, dCall_ap, dCons_ap, dVar_s, dVar_z, bindR_ok, dNone_ap, List.length_cons, List.length_nil, and_self, if_true, t1, bindS_ok, glst2, List.set]
  have a2 : D_law_0_2 [e0, e1, some (.obj n), e3, e4, e5, some v, some u, e8, e9, e10, e11, e12, e13, e14, e15] m1 = some (.nx [e0, e1, some (.obj n), e3, e4, e5, some v, some u, some (.lst (E14 v)), some (.lst (List.replicate 14 v)), e10, e11, e12, e13, e14, e15], m1) := by
    unfold D_law_0_2
    simp only [dAsgG_ap, dCall_ap, dCons_ap, dVar_s, dVar_z, bindR_ok, dNone_ap, List.length_cons, List.length_nil, and_self, if_true, values_ok, bindS_ok, glst2, List.set]
  have a3 : D_law_0_3 [e0, e1, some (.obj n), e3, e4, e5, some v, some u, some (.lst (E14 v)), some (.lst (List.replicate 14 v)), e10, e11, e12, e13, e14, e15] m1 = some (.nx [e0, e1, some (.obj n), e3, e4, e5, some v, some u, some (.lst (E14 v)), some (.lst (List.replicate 14 v)), some (.lst (E14 u)), some (.lst (List.replicate 14 u)), e12, e13, e14, e15], m1) := by
    unfold D_law_0_3
    simp only [dAsgG_ap, dCall_ap, dCons_ap, dVar_s, dVar_z, bindR_ok, dNone_ap, List.length_cons, List.length_nil, and_self, if_true, values_ok, bindS_ok, glst2, List.set]
  have a4 := s4 hv hu m1 e0 e1 (some (.obj n)) e3 e4 e5 e12 e13 e14 e15
  obtain ⟨L, hL⟩ := named_ok u m1
  have a5 : D_law_0_5 [e0, e1, some (.obj n), e3, e4, e5, some v, some u, some (.lst (E14 v)), some (.lst (List.replicate 14 v)), some (.lst (E14 u)), some (.lst (List.replicate 14 u)), e12, e13, e14, e15] m1 = some (.nx [e0, e1, some (.obj n), some (.lst (E7 v u)), e4, e5, some v, some u, some (.lst (E14 v)), some (.lst (List.replicate 14 v)), some (.lst (E14 u)), some (.lst (List.replicate 14 u)), e12, e13, e14, e15], m1) := by rfl
  have a6 : D_law_0_6 [e0, e1, some (.obj n), some (.lst (E7 v u)), e4, e5, some v, some u, some (.lst (E14 v)), some (.lst (List.replicate 14 v)), some (.lst (E14 u)), some (.lst (List.replicate 14 u)), e12, e13, e14, e15] m1 = some (.nx [e0, e1, some (.obj n), some (.lst (E9 v u)), e4, e5, some v, some u, some (.lst (E14 v)), some (.lst (List.replicate 14 v)), some (.lst (E14 u)), some (.lst (List.replicate 14 u)), e12, e13, e14, e15], m1) := by rfl
  have a7 := s7 hv hu m1 e0 e1 (some (.obj n)) e4 e5 e12 e13 e14 e15 (some (.lst (E14 v))) (some (.lst (List.replicate 14 v))) (some (.lst (E14 u))) (some (.lst (List.replicate 14 u)))
  have a8 : D_law_0_8 [e0, e1, some (.obj n), some (.lst (E9 v u)), e4, e5, some v, some u, some (.lst (E14 v)), some (.lst (List.replicate 14 v)), some (.lst (E14 u)), some (.lst (List.replicate 14 u)), e12, e13, e14, e15] m1 = some (.nx [e0, e1, some (.obj n), some (.lst (E9 v u)), some (.err "Refused" [("place", u), ("why", v)]), e5, some v, some u, some (.lst (E14 v)), some (.lst (List.replicate 14 v)), some (.lst (E14 u)), some (.lst (List.replicate 14 u)), e12, e13, e14, e15], m1) := by rfl
  have a9 := s9 hv hu m1 e0 e1 (some (.obj n)) e5 e12 e13 e14 e15 (some (.lst (E14 v))) (some (.lst (List.replicate 14 v))) (some (.lst (E14 u))) (some (.lst (List.replicate 14 u)))
  have a10 : D_law_0_10 [e0, e1, some (.obj n), some (.lst (E9 v u)), some (.err "Refused" [("place", u), ("why", v)]), e5, some v, some u, some (.lst (E14 v)), some (.lst (List.replicate 14 v)), some (.lst (E14 u)), some (.lst (List.replicate 14 u)), e12, e13, e14, e15] m1 = some (.nx [e0, e1, some (.obj n), some (.lst (E9 v u)), some (.err "Refused" [("place", u), ("why", v)]), e5, some v, some u, some (.lst (E14 v)), some (.lst (List.replicate 20 u)), some (.lst (E14 u)), some (.lst (List.replicate 14 u)), some (.lst L), e13, e14, e15], m1) := by
    unfold D_law_0_10
    simp only [dAsgG_ap, dCall_ap, dCons_ap, dVar_s, dVar_z, bindR_ok, dNone_ap, List.length_cons, List.length_nil, and_self, if_true, hL, bindS_ok, glst2, List.set]
  have a11 := s11 hv hu m1 e0 e1 (some (.obj n)) (some (.lst (E9 v u))) (some (.err "Refused" [("place", u), ("why", v)])) e5 (some (.lst L)) e13 e14 e15 (some (.lst (E14 v))) (some (.lst (E14 u))) (some (.lst (List.replicate 14 u)))
  have a12 : D_law_0_12 [e0, e1, some (.obj n), some (.lst (E9 v u)), some (.err "Refused" [("place", u), ("why", v)]), e5, some v, some u, some (.lst (E14 v)), some (.lst (List.replicate 20 u)), some (.lst (E14 u)), some (.lst (List.replicate 14 u)), some (.lst L), e13, e14, e15] m1 = some (.nx [e0, e1, some (.obj n), some (.lst (E9 v u)), some (.err "Refused" [("place", u), ("why", v)]), some bas, some v, some u, some (.lst (E14 v)), some (.lst (List.replicate 20 u)), some (.lst (E14 u)), some (.lst (List.replicate 14 u)), some (.lst L), e13, e14, e15], m1) := by rfl
  obtain ⟨f13, f14, a13⟩ := s13 v u m1 e0 e1 (some (.obj n)) (some (.err "Refused" [("place", u), ("why", v)])) (some v) (some u) (some (.lst (List.replicate 20 u))) (some (.lst (E14 u))) (some (.lst (List.replicate 14 u))) (some (.lst L)) e13 e14 e15
  exact ⟨_, _, _, _, _, _, _, _, _, _, f13, f14, m1, seq_nx a1 (seq_nx a2 (seq_nx a3 (seq_nx a4 (seq_nx a5 (seq_nx a6 (seq_nx a7 (seq_nx a8 (seq_nx a9 (seq_nx a10 (seq_nx a11 (seq_nx a12 a13)))))))))))⟩
theorem law_true (ns : List Int) (hns : ns.length ≤ 63) (_ : ∀ z ∈ ns, Builtin.Int.intBits z ≤ 1048576) : ∃ m', B_law [.frl (ns.map Vl.int)] [] = some (.ok (.bl true), m') := by
  show ∃ m', bodyD 16 D_law [.frl (ns.map Vl.int)] [] = some (.ok (.bl true), m')
  refine wp_fin ?_
  refine wp_body ?_
  rw [show startZ 16 [.frl (ns.map Vl.int)] = [some (.frl (ns.map .int)), none, none, none, none, none, none, none, none, none, none, none, none, none, none, none] from rfl]
  rw [show D_law = dSeq (dFor (iRg1 (dCons (dB (two maxZ) (dCons (dC (.int 1)) (dCons (dB (two minZ) (dCons (dC (.int 3)) (dCons (dB lenF (dCons (dVar 0) (fun _ m => some (.ok [], m)))) (fun _ m => some (.ok [], m))))) (fun _ m => some (.ok [], m))))) (fun _ m => some (.ok [], m)))) (gVar 1) (dSeq D_law_0_0 (dSeq D_law_0_1 (dSeq D_law_0_2 (dSeq D_law_0_3 (dSeq D_law_0_4 (dSeq D_law_0_5 (dSeq D_law_0_6 (dSeq D_law_0_7 (dSeq D_law_0_8 (dSeq D_law_0_9 (dSeq D_law_0_10 (dSeq D_law_0_11 (dSeq D_law_0_12 D_law_0_13)))))))))))))) D_law_1 from rfl]
  rw [dSeq_ap, dFor_ap]
  have hk : (-(2 ^ 62) ≤ maxZ 1 (minZ 3 ns.length)) ∧ maxZ 1 (minZ 3 ns.length) < 2 ^ 62 := by
    unfold maxZ minZ
    omega
  have hr : rng1 [.int (maxZ 1 (minZ 3 ns.length))] = some (intsZ 0 (maxZ 1 (minZ 3 ns.length)).toNat) := by
    unfold rng1
    simp only [hk.1, hk.2, decide_true, Bool.and_self, if_true]
  simp only [iRg1_ap, dCons_ap, dB_ap, dC_ap, dVar_z, bindR_ok, okR_s, lenF_frl, two_int, List.length_map, hr, bindS_ok]
  refine wp_for (P := fun env m => ∃ (e1 e2 e3 e4 e5 e6 e7 e8 e9 e10 e11 e12 e13 e14 e15 : Option Vl), env = [some (.frl (ns.map .int)), e1, e2, e3, e4, e5, e6, e7, e8, e9, e10, e11, e12, e13, e14, e15]) ⟨_, _, _, _, _, _, _, _, _, _, _, _, _, _, _, rfl⟩ ?_ ?_
  · rintro x hx env m ⟨e1, e2, e3, e4, e5, e6, e7, e8, e9, e10, e11, e12, e13, e14, e15, rfl⟩
    obtain ⟨t, ht, rfl⟩ := pos_int hx
    obtain ⟨m1, h0, b1, _⟩ := bag_ok ns hns t ht m
    obtain ⟨f3, f4, f5, f6, f7, f8, f9, f10, f11, f12, f13, f14, m', h⟩ := turn_ok b1 (some (.frl (ns.map .int))) (some (.int t)) e3 e4 e5 e6 e7 e8 e9 e10 e11 e12 e13 e14 e15
    refine ⟨_, _, rfl, ?_⟩
    have a : D_law_0_0 [some (.frl (ns.map .int)), some (.int t), e2, e3, e4, e5, e6, e7, e8, e9, e10, e11, e12, e13, e14, e15] m = some (.nx [some (.frl (ns.map .int)), some (.int t), some (.obj m.length), e3, e4, e5, e6, e7, e8, e9, e10, e11, e12, e13, e14, e15], m1) := by
      unfold D_law_0_0
      simp only [dAsg_ap, dCall_ap, dCons_ap, dVar_s, dVar_z, bindR_ok, dNone_ap, List.length_cons, List.length_nil, and_self, if_true, h0, bindS_ok, List.set]
    show wpO (dSeq D_law_0_0 (dSeq D_law_0_1 (dSeq D_law_0_2 (dSeq D_law_0_3 (dSeq D_law_0_4 (dSeq D_law_0_5 (dSeq D_law_0_6 (dSeq D_law_0_7 (dSeq D_law_0_8 (dSeq D_law_0_9 (dSeq D_law_0_10 (dSeq D_law_0_11 (dSeq D_law_0_12 D_law_0_13)))))))))))) [some (.frl (ns.map .int)), some (.int t), e2, e3, e4, e5, e6, e7, e8, e9, e10, e11, e12, e13, e14, e15] m) _
    rw [seq_nx a h, wpO_some]
    exact ⟨_, rfl, _, _, _, _, _, _, _, _, _, _, _, _, _, _, _, rfl⟩
  · rintro env m ⟨e1, e2, e3, e4, e5, e6, e7, e8, e9, e10, e11, e12, e13, e14, e15, rfl⟩
    show wpO (D_law_1 _ m) _
    rw [show ∀ e m, D_law_1 e m = some (.rt (.bl true), m) from fun e m => rfl, wpO_some]
end
abbrev looseL : List Str := "BadRow" :: "BadUnique" :: "BadColumn" :: "BadValue" :: "BadFilter" :: "BadMode" :: "BadName" :: "Twice" :: "BadStatement" :: "BadArguments" :: "BadMend" :: "BadText" :: "BadCommand" :: "Unlike" :: "NoRow" :: "Unbound" :: "KeyTaken" :: "Taken" :: "Refused" :: "NotOpen" :: "StillOpen" :: "TooMany" :: "TooWide" :: "_law_bag" :: "_law_take" :: "_law_of" :: "_law_things" :: "_law_values" :: "_law_named" :: "_law_kinds" :: "_law_bases" :: []
theorem progF : ProgF (PySem.Challenge.rw_lateflushes_k19_errors_made).prog fileZ := ⟨by decide +kernel, by decide +kernel⟩
/-! ### the head -/
abbrev Rw : PySem.W.OpenRow := PySem.W.OpenLaw.row PySem.Challenge.rw_lateflushes_k19_errors_made
abbrev hk : PySem.W.Hook := hookZ 5 cks dzs ezs
def ob (s : PySem.W.SharedT) : AlZ := obsZG 5 cks dzs ezs (HandSHeadRun.getT s)
theorem ob_eq (s : PySem.W.SharedT) : ob s = hk.obs s.abs := obsZG_eq (HandSHeadRun.getT_eq s)
theorem run (w : World) : HandSHeadRun.RunEq Rw (PySem.W.view Rw.prog [33]) hk ob 6000 K19.looseL w := by
  intro os
  kernel_rfl
end K19
open PySem PySem.W PySem.Calls PyProof.Rows
theorem PySem.Challenge.cw_lateflushes_k19_errors_made_holds : PySem.Challenge.rw_lateflushes_k19_errors_made.Holds := by
  w_on; o_law
  refine HandSHeadRun.head_any (r := OpenLaw.row PySem.Challenge.rw_lateflushes_k19_errors_made) (q := view (OpenLaw.row PySem.Challenge.rw_lateflushes_k19_errors_made).prog [33]) (H := K19.hk) (ob := K19.ob) (M := 6000) (loose := K19.looseL) (d := HandSHeadRun.topDef (OpenLaw.row PySem.Challenge.rw_lateflushes_k19_errors_made).prog 33) (kwd := []) K19.ob_eq
    (by kernel_rfl) (fun s => by kernel_rfl) K19.run (by kernel_rfl) (by kernel_rfl) (by kernel_rfl) (by rfl) (by first | assumption | decide +kernel) (by decide +kernel) ⟨rfl, rfl, rfl, rfl, rfl, by decide +kernel⟩ ?hw ?hc
  case hw => w_witness2
  case hc =>
    refine Z.walk_end (l := PySem.Challenge.rw_lateflushes_k19_errors_made) (n := 63) (k := 4) (x := "_law_script") (g := K19.B_law) rfl (by decide) (by kernel_rfl) ⟨⟨rfl, by decide, by decide⟩, rfl⟩ ?F K19.law_true
    intro w mg fa h Y G hmg0
    obtain ⟨K, KX, c⟩ := Y
    have hmg : mg ("law" : PySem.Str) = some (.ref fa) := by
      have e : (HandSHeadRun.topDef (OpenLaw.row PySem.Challenge.rw_lateflushes_k19_errors_made).prog 33).name = ("law" : PySem.Str) := by kernel_rfl
      rw [← e]
      exact hmg0
    have Xf := K19.fx_of (P := (PySem.Challenge.rw_lateflushes_k19_errors_made).prog) K19.progF KX G c
    have Df := K19.dx_of c
    obtain ⟨fd, F⟩ := Df.d_law
    have e := hmg.symm.trans Xf.g_law
    cases e
    have b := L2.FunD.bindsA (ps := ["_law_script"]) F fun _ _ _ _ _ _ us hl => match us, hl with | [_], _ => rfl
    exact ⟨K, fd, KX, fun s v => b s [v] rfl, fun base hK hG => K19.ok_law (K19.fx_of (P := (PySem.Challenge.rw_lateflushes_k19_errors_made).prog) K19.progF hK hG c) Df F⟩
