import PyProof.Rows.All
import Wide.All
import OpenK.AllK
import Wide.FinOn
import HandS.Base
import HandS.Call
import HandS.List
import HandS.Exc
import HandS.Dict
import HandS.Comp
import HandS.HeadHook1
import HandS.Deep
import HandS.Style
import HandS.IsInst
import HandS.Flow
import HandS.CallSlots
import HandS.Defaults
import HandS.Text
import HandS.Property
import HandS.ClsMeth
import HandS.Iter
import HandS.OwnEq
import PyProof.ReprRoads
import HandS.EndBits
import HandS.Head2
import HandS.HeadHook2
import HandS.MakeKw
import HandS.MakeKwOnly
import HandS.TryMany
import HandS.ExcField
import HandS.ExcIs
import KE.KExcSuper
import HandS.ExcSuper
import KE.KExcIs
import HandS.More
import HandS.CallLocal
import KE.KOpsOwn
import PyProof.StrBlock2
import OpenK.KMeth
import HandS.TupAny
import KE.GoesEnum
import HandS.Star
import PyProof.RowDictHeap
import PyProof.RowDictFlat
import KE.KStateDown
import Lean
import HandS.Head0
import HandS.Head1
import HandS.Words
import PySem.Challenge.RW_lateflushes_k09_filters_bound
set_option Elab.async false
set_option linter.all false
set_option maxRecDepth 100000
set_option maxHeartbeats 4000000
set_option autoImplicit false
namespace Z
open PySem PySem.Spec PyProof.Rows L2
/-! values as trees; what is changed stands in a memory of cells -/
inductive Vl where
  | non | bl (b : Bool) | int (i : Int) | str (x : Str) | ty (n : String)
  | glo (x : Str)
  | tup (xs : List Vl) | lst (xs : List Vl) | frl (xs : List Vl)
  | dic (kvs : List (Key × Vl)) | dit (kvs : List (List Key × Vl))
  | ins (c : Str) (fs : List (Str × Vl))
  | obj (n : Nat)
  | err (c : Str) (fs : List (Str × Vl))
inductive Cell where
  | lst (xs : List Vl) | dic (kvs : List (Key × Vl)) | dit (kvs : List (List Key × Vl))
  | ins (c : Str) (fs : List (Str × Vl))
abbrev Mem := List Cell
abbrev Ev := List (Option Vl)
inductive R (α : Type) where
  | ok (a : α) | ex (c : Str) (fs : List (Str × Vl))
/-- where the cells lie; which objects are values that nobody changes -/
structure Lay where
  c : List Addr
  z : List Addr
abbrev DE := Ev → Mem → Option (R Vl × Mem)
/-- an exception as a value: its class at C, its dict -/
def exq (a C : Addr) (d : Option Addr) : HO := .ext fun h => ∃ (oe : Obj) (vs : Array Value), h.get? a = some oe ∧ oe.cls = .ref C ∧ oe.dict = d ∧ oe.data = .fields vs
def ErrD (ρ : Lay) (H : Hp) (d : Option Addr) (gs : List (Str × V)) : Prop := (∃ dd, d = some dd ∧ dd ∉ ρ.c ∧ H dd = some (.xd gs)) ∨ (d = none ∧ gs = [])
section
variable (K : PySem.W.Frag) (ρ : Lay) (H : Hp)
def TupAt (a : Addr) (vs : List V) : Prop := (a ∉ ρ.c ∧ Rd H a (.tup vs)) ∨
    ∃ (o : Obj) (its : Array Value) (n : Nat), K.lookup a = some o ∧ o.cls = .type "tuple" ∧ o.data = .seq its n ∧ its.size ≤ sizeLine ∧ Vals vs its.toList
def LstAt (a : Addr) (vs : List V) : Prop := (a ∉ ρ.c ∧ ∃ o, H a = some (.frz o (.lst vs))) ∨
    ∃ (o : Obj) (its : Array Value) (n : Nat), K.lookup a = some o ∧ o.cls = .type "list" ∧ o.dict = none ∧ o.data = .seq its n ∧ its.size ≤ sizeLine ∧ Vals vs its.toList
mutual
def RV : Vl → V → Prop
  | .non, v => v = .non
  | .bl b, v => v = .bl b
  | .int i, v => v = .int i
  | .str x, v => v = .str x
  | .ty n, v => v = .ty n
  | .glo x, v => v = .ref (He.ga K x)
  | .tup xs, v => ∃ a vs, v = .ref a ∧ TupAt K ρ H a vs ∧ RVs xs vs
  | .lst xs, v => ∃ a vs, v = .ref a ∧ (a ∈ ρ.z ∧ a ∉ ρ.c) ∧ H a = some (.lst vs) ∧ RVs xs vs
  | .frl xs, v => ∃ a vs, v = .ref a ∧ LstAt K ρ H a vs ∧ RVs xs vs
  | .dic kvs, v => ∃ a ks, v = .ref a ∧ (a ∈ ρ.z ∧ a ∉ ρ.c) ∧ H a = some (.dK ks) ∧ RKs kvs ks
  | .dit kvs, v => ∃ a ks, v = .ref a ∧ (a ∈ ρ.z ∧ a ∉ ρ.c) ∧ H a = some (.dT ks) ∧ RTs kvs ks
  | .ins c fs, v => ∃ a dx gs, v = .ref a ∧ (a ∈ ρ.z ∧ a ∉ ρ.c) ∧ H a = some (.ins (He.ga K c) dx gs) ∧ RFs fs gs
  | .obj n, v => ∃ a, v = .ref a ∧ ρ.c[n]? = some a
  | .err c fs, v => ∃ a d gs, v = .ref a ∧ a ∉ ρ.c ∧ H a = some (exq a (He.ga K c) d) ∧ ErrD ρ H d gs ∧ RFs fs gs
def RVs : List Vl → List V → Prop
  | [], vs => vs = []
  | x :: xs, vs => ∃ v r, vs = v :: r ∧ RV x v ∧ RVs xs r
def RKs : List (Key × Vl) → List (Key × V) → Prop
  | [], vs => vs = []
  | (k, x) :: xs, vs => ∃ v r, vs = (k, v) :: r ∧ RV x v ∧ RKs xs r
def RTs : List (List Key × Vl) → List (List Key × V) → Prop
  | [], vs => vs = []
  | (k, x) :: xs, vs => ∃ v r, vs = (k, v) :: r ∧ RV x v ∧ RTs xs r
def RFs : List (Str × Vl) → List (Str × V) → Prop
  | [], vs => vs = []
  | (k, x) :: xs, vs => ∃ v r, vs = (k, v) :: r ∧ RV x v ∧ RFs xs r
end
end
structure Ext (ρ : Lay) (H : Hp) (ρ' : Lay) (H' : Hp) : Prop where
  pre : ρ.c <+: ρ'.c
  zin : ∀ a, a ∈ ρ.z → a ∈ ρ'.z
  keep : ∀ a o, H a = some o → a ∉ ρ.c → H' a = some o
  stay : ∀ a o, H a = some o → ∃ o', H' a = some o'
  oldc : ∀ a, a ∈ ρ'.c → a ∈ ρ.c ∨ H a = none
  oldz : ∀ a, a ∈ ρ'.z → a ∈ ρ.z ∨ H a = none
end Z
namespace Z
open PySem PySem.Spec PyProof.Rows L2
section
variable {K : PySem.W.Frag} {ρ ρ' ρ2 : Lay} {H H' H2 : Hp}
theorem Ext.refl : Ext ρ H ρ H := ⟨List.prefix_refl _, fun _ h => h, fun a o e n => e, fun a o e => ⟨o, e⟩, fun a h => .inl h, fun a h => .inl h⟩
theorem Ext.none (e : Ext ρ H ρ' H') {a : Addr} (h : H' a = none) : H a = none := by
  cases z : H a with
  | none => rfl
  | some o =>
    obtain ⟨o', q⟩ := e.stay a o z
    rw [h] at q
    cases q
theorem Ext.out (e : Ext ρ H ρ' H') {a : Addr} {o : HO} (h : H a = some o) (n : a ∉ ρ.c) : a ∉ ρ'.c := fun q => by
  rcases e.oldc a q with z | z
  · exact n z
  · rw [h] at z
    cases z
theorem Ext.outz (e : Ext ρ H ρ' H') {a : Addr} {o : HO} (h : H a = some o) (n : a ∉ ρ.z) : a ∉ ρ'.z := fun q => by
  rcases e.oldz a q with z | z
  · exact n z
  · rw [h] at z
    cases z
theorem Ext.trans (a : Ext ρ H ρ' H') (b : Ext ρ' H' ρ2 H2) : Ext ρ H ρ2 H2 :=
  ⟨a.pre.trans b.pre, fun x h => b.zin x (a.zin x h), fun x o e n => b.keep x o (a.keep x o e n) (a.out e n), fun x o e => let ⟨o', h⟩ := a.stay x o e; b.stay x o' h, fun x h => by
    rcases b.oldc x h with q | q
    · exact a.oldc x q
    · exact .inr (a.none q), fun x h => by
    rcases b.oldz x h with q | q
    · exact a.oldz x q
    · exact .inr (a.none q)⟩
theorem rd_mono (e : Ext ρ H ρ' H') {a : Addr} {u : HO} (n : a ∉ ρ.c) (h : Rd H a u) : a ∉ ρ'.c ∧ Rd H' a u := by
  rcases h with h | ⟨o, h⟩
  · exact ⟨e.out h n, .inl (e.keep a _ h n)⟩
  · exact ⟨e.out h n, .inr ⟨o, e.keep a _ h n⟩⟩
theorem TupAt.mono (e : Ext ρ H ρ' H') {a : Addr} {vs : List V} (h : TupAt K ρ H a vs) : TupAt K ρ' H' a vs := by
  rcases h with ⟨n, h⟩ | h
  · exact .inl (rd_mono e n h)
  · exact .inr h
theorem LstAt.mono (e : Ext ρ H ρ' H') {a : Addr} {vs : List V} (h : LstAt K ρ H a vs) : LstAt K ρ' H' a vs := by
  rcases h with ⟨n, o, h⟩ | h
  · exact .inl ⟨e.out h n, o, e.keep a _ h n⟩
  · exact .inr h
theorem TupAt.sq {a : Addr} {vs : List V} (h : TupAt K ρ H a vs) : SqT K H a vs := by
  rcases h with ⟨_, h⟩ | h
  · exact .inl h
  · exact .inr h
theorem LstAt.sq {a : Addr} {vs : List V} (h : LstAt K ρ H a vs) : SqL K H a vs := by
  rcases h with ⟨_, h⟩ | h
  · exact .inl (.inr h)
  · exact .inr h
theorem ErrD.mono (e : Ext ρ H ρ' H') {d : Option Addr} {gs : List (Str × V)} (h : ErrD ρ H d gs) : ErrD ρ' H' d gs := by
  rcases h with ⟨dd, h1, h2, h3⟩ | h
  · exact .inl ⟨dd, h1, e.out h3 h2, e.keep dd _ h3 h2⟩
  · exact .inr h
mutual
theorem RV.mono (e : Ext ρ H ρ' H') : ∀ (x : Vl) {v : V}, RV K ρ H x v → RV K ρ' H' x v
  | .non, _, h => h
  | .bl _, _, h => h
  | .int _, _, h => h
  | .str _, _, h => h
  | .ty _, _, h => h
  | .glo _, _, h => h
  | .tup xs, _, ⟨a, vs, h1, h2, h3⟩ => ⟨a, vs, h1, h2.mono e, RVs.mono e xs h3⟩
  | .lst xs, _, ⟨a, vs, h1, n, h2, h3⟩ => ⟨a, vs, h1, ⟨e.zin a n.1, e.out h2 n.2⟩, e.keep a _ h2 n.2, RVs.mono e xs h3⟩
  | .frl xs, _, ⟨a, vs, h1, h2, h3⟩ => ⟨a, vs, h1, h2.mono e, RVs.mono e xs h3⟩
  | .dic xs, _, ⟨a, vs, h1, n, h2, h3⟩ => ⟨a, vs, h1, ⟨e.zin a n.1, e.out h2 n.2⟩, e.keep a _ h2 n.2, RKs.mono e xs h3⟩
  | .dit xs, _, ⟨a, vs, h1, n, h2, h3⟩ => ⟨a, vs, h1, ⟨e.zin a n.1, e.out h2 n.2⟩, e.keep a _ h2 n.2, RTs.mono e xs h3⟩
  | .ins c fs, _, ⟨a, dx, gs, h1, n, h2, h3⟩ => ⟨a, dx, gs, h1, ⟨e.zin a n.1, e.out h2 n.2⟩, e.keep a _ h2 n.2, RFs.mono e fs h3⟩
  | .obj n, _, ⟨a, h1, h2⟩ => ⟨a, h1, by
      obtain ⟨t, ht⟩ := e.pre
      rw [← ht]
      exact (List.getElem?_append_left (List.getElem?_eq_some_iff.mp h2).1).trans h2⟩
  | .err c fs, _, ⟨a, d, gs, h1, n, h2, h3, h4⟩ => ⟨a, d, gs, h1, e.out h2 n, e.keep a _ h2 n, h3.mono e, RFs.mono e fs h4⟩
theorem RVs.mono (e : Ext ρ H ρ' H') : ∀ (xs : List Vl) {vs : List V}, RVs K ρ H xs vs → RVs K ρ' H' xs vs
  | [], _, h => h
  | x :: xs, _, ⟨v, r, h1, h2, h3⟩ => ⟨v, r, h1, RV.mono e x h2, RVs.mono e xs h3⟩
theorem RKs.mono (e : Ext ρ H ρ' H') : ∀ (xs : List (Key × Vl)) {vs : List (Key × V)}, RKs K ρ H xs vs → RKs K ρ' H' xs vs
  | [], _, h => h
  | (k, x) :: xs, _, ⟨v, r, h1, h2, h3⟩ => ⟨v, r, h1, RV.mono e x h2, RKs.mono e xs h3⟩
theorem RTs.mono (e : Ext ρ H ρ' H') : ∀ (xs : List (List Key × Vl)) {vs : List (List Key × V)}, RTs K ρ H xs vs → RTs K ρ' H' xs vs
  | [], _, h => h
  | (k, x) :: xs, _, ⟨v, r, h1, h2, h3⟩ => ⟨v, r, h1, RV.mono e x h2, RTs.mono e xs h3⟩
theorem RFs.mono (e : Ext ρ H ρ' H') : ∀ (xs : List (Str × Vl)) {vs : List (Str × V)}, RFs K ρ H xs vs → RFs K ρ' H' xs vs
  | [], _, h => h
  | (k, x) :: xs, _, ⟨v, r, h1, h2, h3⟩ => ⟨v, r, h1, RV.mono e x h2, RFs.mono e xs h3⟩
end
/-! lists of values -/
theorem RVs.length : ∀ {xs : List Vl} {vs : List V}, RVs K ρ H xs vs → xs.length = vs.length
  | [], _, h => by rw [show _ = [] from h]; rfl
  | _ :: xs, _, ⟨v, r, h1, _, h3⟩ => by rw [h1, List.length_cons, List.length_cons, RVs.length h3]
theorem RVs.get : ∀ {xs : List Vl} {vs : List V} {i : Nat} {x : Vl}, RVs K ρ H xs vs → xs[i]? = some x → ∃ v, vs[i]? = some v ∧ RV K ρ H x v
  | [], _, _, _, _, e => by simp at e
  | _ :: _, _, 0, _, ⟨v, r, h1, h2, _⟩, e => by
    simp at e
    subst e h1
    exact ⟨v, rfl, h2⟩
  | _ :: xs, _, i + 1, x, ⟨v, r, h1, _, h3⟩, e => by
    subst h1
    obtain ⟨u, h4, h5⟩ := RVs.get (i := i) (x := x) h3 (by simpa using e)
    exact ⟨u, by simpa using h4, h5⟩
theorem RVs.getv : ∀ {xs : List Vl} {vs : List V} {i : Nat} {v : V}, RVs K ρ H xs vs → vs[i]? = some v → ∃ x, xs[i]? = some x ∧ RV K ρ H x v := by
  intro xs vs i v h e
  have hl := h.length
  obtain ⟨hi, _⟩ := List.getElem?_eq_some_iff.mp e
  have hx : xs[i]? = some (xs[i]'(by omega)) := by simp [hl, hi]
  obtain ⟨u, h4, h5⟩ := h.get hx
  rw [e] at h4
  cases h4
  exact ⟨_, hx, h5⟩
theorem RVs.append : ∀ {xs ys : List Vl} {vs ws : List V}, RVs K ρ H xs vs → RVs K ρ H ys ws → RVs K ρ H (xs ++ ys) (vs ++ ws)
  | [], _, _, _, h, q => by
    rw [show _ = [] from h]
    exact q
  | _ :: xs, _, _, _, ⟨v, r, h1, h2, h3⟩, q => by
    subst h1
    exact ⟨v, _, rfl, h2, RVs.append h3 q⟩
theorem RVs.set : ∀ {xs : List Vl} {vs : List V} {y : Vl} {w : V} (i : Nat), RVs K ρ H xs vs → RV K ρ H y w → RVs K ρ H (xs.set i y) (vs.set i w)
  | [], _, _, _, _, h, _ => by
    rw [show _ = [] from h]
    exact rfl
  | _ :: xs, _, _, _, 0, ⟨v, r, h1, h2, h3⟩, q => by
    subst h1
    exact ⟨_, _, rfl, q, h3⟩
  | _ :: xs, _, _, _, i + 1, ⟨v, r, h1, h2, h3⟩, q => by
    subst h1
    exact ⟨_, _, rfl, h2, RVs.set i h3 q⟩
theorem RVs.mk : ∀ {xs : List Vl} {vs : List V}, xs.length = vs.length → (∀ (i : Nat) (x : Vl) (v : V), xs[i]? = some x → vs[i]? = some v → RV K ρ H x v) → RVs K ρ H xs vs
  | [], [], _, _ => rfl
  | [], _ :: _, h, _ => by simp at h
  | _ :: _, [], h, _ => by simp at h
  | x :: xs, v :: vs, h, q => ⟨v, vs, rfl, q 0 x v rfl rfl, RVs.mk (by simpa using h) fun i y w h1 h2 => q (i + 1) y w (by simpa using h1) (by simpa using h2)⟩
theorem RVs.eraseIdx {xs : List Vl} {vs : List V} (h : RVs K ρ H xs vs) (i : Nat) : RVs K ρ H (xs.eraseIdx i) (vs.eraseIdx i) := by
  refine RVs.mk (by rw [List.length_eraseIdx, List.length_eraseIdx, h.length]) fun j x v h1 h2 => ?_
  rw [List.getElem?_eraseIdx] at h1 h2
  split at h1
  · rename_i q
    rw [if_pos q] at h2
    obtain ⟨w, h3, h4⟩ := h.get h1
    rw [h2] at h3
    cases h3
    exact h4
  · rename_i q
    rw [if_neg q] at h2
    obtain ⟨w, h3, h4⟩ := h.get h1
    rw [h2] at h3
    cases h3
    exact h4
theorem RVs.reverse {xs : List Vl} {vs : List V} (h : RVs K ρ H xs vs) : RVs K ρ H xs.reverse vs.reverse := by
  refine RVs.mk (by rw [List.length_reverse, List.length_reverse, h.length]) fun j x v h1 h2 => ?_
  have hj : j < xs.length := by simpa using (List.getElem?_eq_some_iff.mp h1).1
  rw [List.getElem?_reverse hj] at h1
  rw [List.getElem?_reverse (by rw [← h.length]; exact hj), ← h.length] at h2
  obtain ⟨w, h3, h4⟩ := h.get h1
  rw [h2] at h3
  cases h3
  exact h4
theorem RFs.get : ∀ {xs : List (Str × Vl)} {vs : List (Str × V)} {f : Str} {x : Vl}, RFs K ρ H xs vs → xs.lookup f = some x → ∃ v, vs.lookup f = some v ∧ RV K ρ H x v
  | [], _, _, _, _, e => by simp at e
  | (k, y) :: xs, _, f, x, ⟨v, r, h1, h2, h3⟩, e => by
    subst h1
    rw [List.lookup_cons] at e ⊢
    cases q : f == k with
    | true =>
      rw [q] at e
      cases e
      exact ⟨v, rfl, h2⟩
    | false =>
      rw [q] at e
      exact RFs.get h3 e
theorem RFs.none : ∀ {xs : List (Str × Vl)} {vs : List (Str × V)} {f : Str}, RFs K ρ H xs vs → xs.lookup f = none → vs.lookup f = none
  | [], _, _, h, _ => by
    rw [show _ = [] from h]
    rfl
  | (k, y) :: xs, _, f, ⟨v, r, h1, h2, h3⟩, e => by
    subst h1
    rw [List.lookup_cons] at e ⊢
    cases q : f == k with
    | true =>
      rw [q] at e
      cases e
    | false =>
      rw [q] at e
      exact RFs.none h3 e
theorem RFs.length : ∀ {xs : List (Str × Vl)} {vs : List (Str × V)}, RFs K ρ H xs vs → xs.length = vs.length
  | [], _, h => by rw [show _ = [] from h]; rfl
  | (_, _) :: xs, _, ⟨v, r, h1, _, h3⟩ => by rw [h1, List.length_cons, List.length_cons, RFs.length h3]
/-! a value is of the flat kinds -/
def putL (f : Str) (v : Vl) : List (Str × Vl) → List (Str × Vl)
  | [] => [(f, v)]
  | (g, x) :: r => if g = f then (g, v) :: r else (g, x) :: putL f v r
theorem RFs.put {f : Str} {y : Vl} {w : V} (q : RV K ρ H y w) : ∀ {xs : List (Str × Vl)} {vs : List (Str × V)}, RFs K ρ H xs vs → RFs K ρ H (putL f y xs) (putF f w vs)
  | [], _, h => by
    rw [show _ = [] from h]
    exact ⟨w, [], rfl, q, rfl⟩
  | (k, x) :: xs, _, ⟨v, r, h1, h2, h3⟩ => by
    subst h1
    unfold putL putF
    by_cases e : k = f
    · rw [if_pos e, if_pos e]
      exact ⟨w, r, rfl, q, h3⟩
    · rw [if_neg e, if_neg e]
      exact ⟨v, _, rfl, h2, RFs.put q h3⟩
end
/-! ### the memory -/
def RC (K : PySem.W.Frag) (ρ : Lay) (H : Hp) (a : Addr) : Cell → Prop
  | .lst xs => ∃ vs, H a = some (.lst vs) ∧ RVs K ρ H xs vs
  | .dic ks => ∃ vs, H a = some (.dK vs) ∧ RKs K ρ H ks vs
  | .dit ks => ∃ vs, H a = some (.dT vs) ∧ RTs K ρ H ks vs
  | .ins c fs => ∃ dx gs, H a = some (.ins (He.ga K c) dx gs) ∧ RFs K ρ H fs gs
structure RM (K : PySem.W.Frag) (ρ : Lay) (m : Mem) (H : Hp) : Prop where
  nd : ρ.c.Nodup
  len : ρ.c.length = m.length
  at_ : ∀ (n : Nat) (c : Cell) (a : Addr), m[n]? = some c → ρ.c[n]? = some a → RC K ρ H a c
  zt : ∀ a, a ∈ ρ.z → a ∉ ρ.c ∧ ∃ o, H a = some o
section
variable {K : PySem.W.Frag} {ρ ρ' : Lay} {H H' : Hp} {m : Mem} {n : Nat} {a p : Addr} {c : Cell}
theorem RC.some (h : RC K ρ H a c) : ∃ o, H a = some o := by
  cases c with
  | lst xs => exact let ⟨vs, h, _⟩ := h; ⟨_, h⟩
  | dic xs => exact let ⟨vs, h, _⟩ := h; ⟨_, h⟩
  | dit xs => exact let ⟨vs, h, _⟩ := h; ⟨_, h⟩
  | ins k fs => exact let ⟨_, vs, h, _⟩ := h; ⟨_, h⟩
theorem RM.some (h : RM K ρ m H) (ha : a ∈ ρ.c) : ∃ o, H a = some o := by
  obtain ⟨n, hn⟩ := List.mem_iff_getElem?.mp ha
  have hl : n < m.length := by rw [← h.len]; exact (List.getElem?_eq_some_iff.mp hn).1
  exact (h.at_ n m[n] a (by simp [hl]) hn).some
theorem RM.fresh (h : RM K ρ m H) (hp : H p = none) : p ∉ ρ.c := fun q => by
  obtain ⟨o, e⟩ := h.some q
  rw [hp] at e
  cases e
theorem RM.freshz (h : RM K ρ m H) (hp : H p = none) : p ∉ ρ.z := fun q => by
  obtain ⟨_, o, e⟩ := h.zt p q
  rw [hp] at e
  cases e
theorem RM.adr (h : RM K ρ m H) (hn : m[n]? = Option.some c) : ∃ a, ρ.c[n]? = Option.some a := by
  have hl : n < ρ.c.length := by rw [h.len]; exact (List.getElem?_eq_some_iff.mp hn).1
  exact ⟨ρ.c[n], by simp [hl]⟩
theorem RM.ne (h : RM K ρ m H) {i j : Nat} {b : Addr} (h1 : ρ.c[i]? = Option.some a) (h2 : ρ.c[j]? = Option.some b) (ne : i ≠ j) : a ≠ b := fun e => by
  subst e
  obtain ⟨q1, e1⟩ := List.getElem?_eq_some_iff.mp h1
  obtain ⟨q2, e2⟩ := List.getElem?_eq_some_iff.mp h2
  exact ne ((List.getElem_inj h.nd).mp (e1.trans e2.symm))
/-- a cell behind a change that keeps what lies at its address -/
theorem RC.mono (e : Ext ρ H ρ' H') (hs : ∀ o, H a = Option.some o → H' a = Option.some o) : ∀ {c : Cell}, RC K ρ H a c → RC K ρ' H' a c
  | .lst xs, ⟨vs, h1, h2⟩ => ⟨vs, hs _ h1, h2.mono e⟩
  | .dic xs, ⟨vs, h1, h2⟩ => ⟨vs, hs _ h1, h2.mono e⟩
  | .dit xs, ⟨vs, h1, h2⟩ => ⟨vs, hs _ h1, h2.mono e⟩
  | .ins _ xs, ⟨dx, vs, h1, h2⟩ => ⟨dx, vs, hs _ h1, h2.mono e⟩
theorem upd_stay {o : HO} {b : Addr} {u : HO} (e : H b = Option.some u) : ∃ o', upd H p o b = Option.some o' := by
  by_cases q : b = p
  · subst q
    exact ⟨o, upd_same⟩
  · exact ⟨u, by rw [upd_ne q]; exact e⟩
theorem ext_new {o : HO} (hp : H p = none) : Ext ρ H ρ (upd H p o) :=
  ⟨List.prefix_refl _, fun _ h => h, fun b u e n => by rw [upd_ne (ne_of_none e hp)]; exact e, fun b u e => upd_stay e, fun b h => .inl h, fun b h => .inl h⟩
/-- a new object that is no cell -/
theorem RM.laid {o : HO} (h : RM K ρ m H) (hp : H p = none) : RM K ρ m (upd H p o) :=
  ⟨h.nd, h.len, fun n c a h1 h2 => (h.at_ n c a h1 h2).mono (ext_new hp) fun u e => by rw [upd_ne (ne_of_none e hp)]; exact e, fun b hb => ⟨(h.zt b hb).1, let ⟨_, e⟩ := (h.zt b hb).2; upd_stay e⟩⟩
/-- .. one that is a value from now on -/
def Lay.frz (ρ : Lay) (p : Addr) : Lay := ⟨ρ.c, ρ.z ++ [p]⟩
def Lay.cel (ρ : Lay) (p : Addr) : Lay := ⟨ρ.c ++ [p], ρ.z⟩
/-- what belongs to nobody may be told of -/
theorem mem_frz {b : Addr} : b ∈ (ρ.frz p).z ↔ b ∈ ρ.z ∨ b = p := by
  show b ∈ ρ.z ++ [p] ↔ _
  rw [List.mem_append, List.mem_singleton]
theorem mem_cel {b : Addr} : b ∈ (ρ.cel p).c ↔ b ∈ ρ.c ∨ b = p := by
  show b ∈ ρ.c ++ [p] ↔ _
  rw [List.mem_append, List.mem_singleton]
structure Own (ρ : Lay) (H0 : Hp) (p : Addr) : Prop where
  c : p ∉ ρ.c
  z : p ∉ ρ.z
  new : H0 p = none
theorem Ext.toFrz {H0 : Hp} {ρ0 : Lay} (e : Ext ρ0 H0 ρ H) (w : Own ρ H0 p) : Ext ρ0 H0 (ρ.frz p) H :=
  ⟨e.pre, fun b h => mem_frz.mpr (.inl (e.zin b h)), e.keep, e.stay, e.oldc, fun b h => by
    rcases mem_frz.mp h with q | q
    · exact e.oldz b q
    · exact .inr (by rw [q]; exact w.new)⟩
theorem Ext.toCel {H0 : Hp} {ρ0 : Lay} (e : Ext ρ0 H0 ρ H) (w : Own ρ H0 p) : Ext ρ0 H0 (ρ.cel p) H :=
  ⟨e.pre.trans (List.prefix_append _ _), e.zin, e.keep, e.stay, fun b h => by
    rcases mem_cel.mp h with q | q
    · exact e.oldc b q
    · exact .inr (by rw [q]; exact w.new), e.oldz⟩
mutual
theorem RV.frz (w : p ∉ ρ.c) : ∀ (x : Vl) {v : V}, RV K ρ H x v → RV K (ρ.frz p) H x v
  | .non, _, h => h
  | .bl _, _, h => h
  | .int _, _, h => h
  | .str _, _, h => h
  | .ty _, _, h => h
  | .glo _, _, h => h
  | .tup xs, _, ⟨a, vs, h1, h2, h3⟩ => ⟨a, vs, h1, h2, RVs.frz w xs h3⟩
  | .lst xs, _, ⟨a, vs, h1, n, h2, h3⟩ => ⟨a, vs, h1, ⟨mem_frz.mpr (.inl n.1), n.2⟩, h2, RVs.frz w xs h3⟩
  | .frl xs, _, ⟨a, vs, h1, h2, h3⟩ => ⟨a, vs, h1, h2, RVs.frz w xs h3⟩
  | .dic xs, _, ⟨a, vs, h1, n, h2, h3⟩ => ⟨a, vs, h1, ⟨mem_frz.mpr (.inl n.1), n.2⟩, h2, RKs.frz w xs h3⟩
  | .dit xs, _, ⟨a, vs, h1, n, h2, h3⟩ => ⟨a, vs, h1, ⟨mem_frz.mpr (.inl n.1), n.2⟩, h2, RTs.frz w xs h3⟩
  | .ins c fs, _, ⟨a, dx, gs, h1, n, h2, h3⟩ => ⟨a, dx, gs, h1, ⟨mem_frz.mpr (.inl n.1), n.2⟩, h2, RFs.frz w fs h3⟩
  | .obj n, _, h => h
  | .err c fs, _, ⟨a, d, gs, h1, n, h2, h3, h4⟩ => ⟨a, d, gs, h1, n, h2, h3, RFs.frz w fs h4⟩
theorem RVs.frz (w : p ∉ ρ.c) : ∀ (xs : List Vl) {vs : List V}, RVs K ρ H xs vs → RVs K (ρ.frz p) H xs vs
  | [], _, h => h
  | x :: xs, _, ⟨v, r, h1, h2, h3⟩ => ⟨v, r, h1, RV.frz w x h2, RVs.frz w xs h3⟩
theorem RKs.frz (w : p ∉ ρ.c) : ∀ (xs : List (Key × Vl)) {vs : List (Key × V)}, RKs K ρ H xs vs → RKs K (ρ.frz p) H xs vs
  | [], _, h => h
  | (k, x) :: xs, _, ⟨v, r, h1, h2, h3⟩ => ⟨v, r, h1, RV.frz w x h2, RKs.frz w xs h3⟩
theorem RTs.frz (w : p ∉ ρ.c) : ∀ (xs : List (List Key × Vl)) {vs : List (List Key × V)}, RTs K ρ H xs vs → RTs K (ρ.frz p) H xs vs
  | [], _, h => h
  | (k, x) :: xs, _, ⟨v, r, h1, h2, h3⟩ => ⟨v, r, h1, RV.frz w x h2, RTs.frz w xs h3⟩
theorem RFs.frz (w : p ∉ ρ.c) : ∀ (xs : List (Str × Vl)) {vs : List (Str × V)}, RFs K ρ H xs vs → RFs K (ρ.frz p) H xs vs
  | [], _, h => h
  | (k, x) :: xs, _, ⟨v, r, h1, h2, h3⟩ => ⟨v, r, h1, RV.frz w x h2, RFs.frz w xs h3⟩
end
/-- what may be a cell -/
def cellK : HO → Bool
  | .lst _ => true
  | .dK _ => true
  | .dT _ => true
  | .ins _ _ _ => true
  | _ => false
theorem tup_cel {vs : List V} {o : HO} (h : TupAt K ρ H a vs) (hp : H p = Option.some o) (hk : cellK o = true) : TupAt K (ρ.cel p) H a vs := by
  rcases h with ⟨n, h⟩ | h
  · refine .inl ⟨fun q => ?_, h⟩
    rcases mem_cel.mp q with q | q
    · exact n q
    · subst q
      rcases h with h | ⟨u, h⟩
      · rw [h] at hp
        cases hp
        cases hk
      · rw [h] at hp
        cases hp
        cases hk
  · exact .inr h
theorem lst_cel {vs : List V} {o : HO} (h : LstAt K ρ H a vs) (hp : H p = Option.some o) (hk : cellK o = true) : LstAt K (ρ.cel p) H a vs := by
  rcases h with ⟨n, u, h⟩ | h
  · refine .inl ⟨fun q => ?_, u, h⟩
    rcases mem_cel.mp q with q | q
    · exact n q
    · subst q
      rw [h] at hp
      cases hp
      cases hk
  · exact .inr h
theorem nz_cel (w : p ∉ ρ.z) {a : Addr} (n : a ∈ ρ.z ∧ a ∉ ρ.c) : a ∈ (ρ.cel p).z ∧ a ∉ (ρ.cel p).c := ⟨n.1, fun q => by
  rcases mem_cel.mp q with q | q
  · exact n.2 q
  · rw [q] at n
    exact w n.1⟩
theorem exq_cel {o : HO} {C : Addr} {d : Option Addr} (n : a ∉ ρ.c) (h : H a = Option.some (exq a C d)) (hp : H p = Option.some o) (hk : cellK o = true) : a ∉ (ρ.cel p).c := fun q => by
  rcases mem_cel.mp q with q | q
  · exact n q
  · subst q
    rw [h] at hp
    cases hp
    cases hk
theorem errD_cel {o : HO} {d : Option Addr} {gs : List (Str × V)} (h : ErrD ρ H d gs) (hp : H p = Option.some o) (hk : cellK o = true) : ErrD (ρ.cel p) H d gs := by
  rcases h with ⟨dd, h1, h2, h3⟩ | h
  · refine .inl ⟨dd, h1, fun q => ?_, h3⟩
    rcases mem_cel.mp q with q | q
    · exact h2 q
    · subst q
      rw [h3] at hp
      cases hp
      cases hk
  · exact .inr h
mutual
theorem RV.cel {o : HO} (w : p ∉ ρ.z) (hp : H p = Option.some o) (hk : cellK o = true) : ∀ (x : Vl) {v : V}, RV K ρ H x v → RV K (ρ.cel p) H x v
  | .non, _, h => h
  | .bl _, _, h => h
  | .int _, _, h => h
  | .str _, _, h => h
  | .ty _, _, h => h
  | .glo _, _, h => h
  | .tup xs, _, ⟨a, vs, h1, h2, h3⟩ => ⟨a, vs, h1, tup_cel h2 hp hk, RVs.cel w hp hk xs h3⟩
  | .lst xs, _, ⟨a, vs, h1, n, h2, h3⟩ => ⟨a, vs, h1, nz_cel w n, h2, RVs.cel w hp hk xs h3⟩
  | .frl xs, _, ⟨a, vs, h1, h2, h3⟩ => ⟨a, vs, h1, lst_cel h2 hp hk, RVs.cel w hp hk xs h3⟩
  | .dic xs, _, ⟨a, vs, h1, n, h2, h3⟩ => ⟨a, vs, h1, nz_cel w n, h2, RKs.cel w hp hk xs h3⟩
  | .dit xs, _, ⟨a, vs, h1, n, h2, h3⟩ => ⟨a, vs, h1, nz_cel w n, h2, RTs.cel w hp hk xs h3⟩
  | .ins c fs, _, ⟨a, dx, gs, h1, n, h2, h3⟩ => ⟨a, dx, gs, h1, nz_cel w n, h2, RFs.cel w hp hk fs h3⟩
  | .obj n, _, ⟨a, h1, h2⟩ => ⟨a, h1, (List.getElem?_append_left (List.getElem?_eq_some_iff.mp h2).1).trans h2⟩
  | .err c fs, _, ⟨a, d, gs, h1, n, h2, h3, h4⟩ => ⟨a, d, gs, h1, exq_cel n h2 hp hk, h2, errD_cel h3 hp hk, RFs.cel w hp hk fs h4⟩
theorem RVs.cel {o : HO} (w : p ∉ ρ.z) (hp : H p = Option.some o) (hk : cellK o = true) : ∀ (xs : List Vl) {vs : List V}, RVs K ρ H xs vs → RVs K (ρ.cel p) H xs vs
  | [], _, h => h
  | x :: xs, _, ⟨v, r, h1, h2, h3⟩ => ⟨v, r, h1, RV.cel w hp hk x h2, RVs.cel w hp hk xs h3⟩
theorem RKs.cel {o : HO} (w : p ∉ ρ.z) (hp : H p = Option.some o) (hk : cellK o = true) : ∀ (xs : List (Key × Vl)) {vs : List (Key × V)}, RKs K ρ H xs vs → RKs K (ρ.cel p) H xs vs
  | [], _, h => h
  | (k, x) :: xs, _, ⟨v, r, h1, h2, h3⟩ => ⟨v, r, h1, RV.cel w hp hk x h2, RKs.cel w hp hk xs h3⟩
theorem RTs.cel {o : HO} (w : p ∉ ρ.z) (hp : H p = Option.some o) (hk : cellK o = true) : ∀ (xs : List (List Key × Vl)) {vs : List (List Key × V)}, RTs K ρ H xs vs → RTs K (ρ.cel p) H xs vs
  | [], _, h => h
  | (k, x) :: xs, _, ⟨v, r, h1, h2, h3⟩ => ⟨v, r, h1, RV.cel w hp hk x h2, RTs.cel w hp hk xs h3⟩
theorem RFs.cel {o : HO} (w : p ∉ ρ.z) (hp : H p = Option.some o) (hk : cellK o = true) : ∀ (xs : List (Str × Vl)) {vs : List (Str × V)}, RFs K ρ H xs vs → RFs K (ρ.cel p) H xs vs
  | [], _, h => h
  | (k, x) :: xs, _, ⟨v, r, h1, h2, h3⟩ => ⟨v, r, h1, RV.cel w hp hk x h2, RFs.cel w hp hk xs h3⟩
end
theorem RC.frz (w : p ∉ ρ.c) : ∀ {c : Cell}, RC K ρ H a c → RC K (ρ.frz p) H a c
  | .lst xs, ⟨vs, h1, h2⟩ => ⟨vs, h1, h2.frz w⟩
  | .dic xs, ⟨vs, h1, h2⟩ => ⟨vs, h1, h2.frz w⟩
  | .dit xs, ⟨vs, h1, h2⟩ => ⟨vs, h1, h2.frz w⟩
  | .ins _ xs, ⟨dx, vs, h1, h2⟩ => ⟨dx, vs, h1, h2.frz w⟩
theorem RC.cel {o : HO} (w : p ∉ ρ.z) (hp : H p = Option.some o) (hk : cellK o = true) : ∀ {c : Cell}, RC K ρ H a c → RC K (ρ.cel p) H a c
  | .lst xs, ⟨vs, h1, h2⟩ => ⟨vs, h1, h2.cel w hp hk⟩
  | .dic xs, ⟨vs, h1, h2⟩ => ⟨vs, h1, h2.cel w hp hk⟩
  | .dit xs, ⟨vs, h1, h2⟩ => ⟨vs, h1, h2.cel w hp hk⟩
  | .ins _ xs, ⟨dx, vs, h1, h2⟩ => ⟨dx, vs, h1, h2.cel w hp hk⟩
theorem RM.toFrz {o : HO} (h : RM K ρ m H) (w : p ∉ ρ.c) (hp : H p = Option.some o) : RM K (ρ.frz p) m H :=
  ⟨h.nd, h.len, fun n c a h1 h2 => (h.at_ n c a h1 h2).frz w, fun b hb => by
    rcases mem_frz.mp hb with q | q
    · exact h.zt b q
    · rw [q]
      exact ⟨w, o, hp⟩⟩
theorem RM.toCel {o : HO} (h : RM K ρ m H) (w : p ∉ ρ.c) (wz : p ∉ ρ.z) (hp : H p = Option.some o) (hk : cellK o = true) (hc : RC K ρ H p c) : RM K (ρ.cel p) (m ++ [c]) H := by
  refine ⟨?_, by show (ρ.c ++ [p]).length = _; rw [List.length_append, List.length_append, h.len]; rfl, fun n d a h1 h2 => ?_, fun b hb => ?_⟩
  · show (ρ.c ++ [p]).Nodup
    rw [List.nodup_append]
    refine ⟨h.nd, by simp, fun x hx y hy e => ?_⟩
    rw [List.mem_singleton] at hy
    subst hy e
    exact w hx
  · have h2' : (ρ.c ++ [p])[n]? = Option.some a := h2
    by_cases q : n < m.length
    · rw [List.getElem?_append_left q] at h1
      rw [List.getElem?_append_left (by rw [h.len]; exact q)] at h2'
      exact (h.at_ n d a h1 h2').cel wz hp hk
    · rw [List.getElem?_append_right (by omega)] at h1
      rw [List.getElem?_append_right (by rw [h.len]; omega), h.len] at h2'
      have e0 : n - m.length = 0 := by
        have := (List.getElem?_eq_some_iff.mp h1).1
        simp at this
        omega
      rw [e0] at h1 h2'
      simp at h1 h2'
      subst h1 h2'
      exact hc.cel wz hp hk
  · obtain ⟨h1, h2⟩ := h.zt b hb
    refine ⟨fun q => ?_, h2⟩
    rcases mem_cel.mp q with q | q
    · exact h1 q
    · rw [q] at hb
      exact wz hb
theorem ext_set {o : HO} (ha : a ∈ ρ.c) : Ext ρ H ρ (upd H a o) :=
  ⟨List.prefix_refl _, fun _ h => h, fun b u e n => by rw [upd_ne (show b ≠ a from fun q => n (by rw [q]; exact ha))]; exact e, fun b u e => upd_stay e, fun b h => .inl h, fun b h => .inl h⟩
/-- a cell is changed -/
theorem RM.put {o : HO} (h : RM K ρ m H) (hn : ρ.c[n]? = Option.some a) (hc : RC K ρ (upd H a o) a c) : RM K ρ (m.set n c) (upd H a o) := by
  refine ⟨h.nd, by rw [List.length_set]; exact h.len, fun i d b h1 h2 => ?_, fun b hb => ⟨(h.zt b hb).1, let ⟨_, e⟩ := (h.zt b hb).2; upd_stay e⟩⟩
  by_cases q : n = i
  · subst q
    have hl : n < m.length := by rw [← h.len]; exact (List.getElem?_eq_some_iff.mp hn).1
    rw [List.getElem?_set_self hl] at h1
    cases h1
    rw [hn] at h2
    cases h2
    exact hc
  · rw [List.getElem?_set_ne q] at h1
    exact (h.at_ i d b h1 h2).mono (ext_set (List.mem_of_getElem? hn)) fun u e => by rw [upd_ne (h.ne h2 hn (Ne.symm q))]; exact e
end
/-! ### slots -/
def RE (K : PySem.W.Frag) (ρ : Lay) (H : Hp) (env : Ev) (σ : L2.St) : Prop := env.length = σ.length ∧ ∀ (i : Nat) (x : Vl), env[i]? = some (some x) → ∃ v, σ[i]? = some (some v) ∧ RV K ρ H x v
theorem RE.mono {K : PySem.W.Frag} {ρ ρ' : Lay} {H H' : Hp} {env : Ev} {σ : L2.St} (h : RE K ρ H env σ) (e : Ext ρ H ρ' H') : RE K ρ' H' env σ :=
  ⟨h.1, fun i x q => let ⟨v, h1, h2⟩ := h.2 i x q; ⟨v, h1, h2.mono e⟩⟩
theorem RE.frz {K : PySem.W.Frag} {ρ : Lay} {H : Hp} {env : Ev} {σ : L2.St} {p : Addr} (h : RE K ρ H env σ) (w : p ∉ ρ.c) : RE K (ρ.frz p) H env σ :=
  ⟨h.1, fun i x q => let ⟨v, h1, h2⟩ := h.2 i x q; ⟨v, h1, h2.frz w⟩⟩
theorem RE.cel {K : PySem.W.Frag} {ρ : Lay} {H : Hp} {env : Ev} {σ : L2.St} {p : Addr} {o : HO} (h : RE K ρ H env σ) (w : p ∉ ρ.z) (hp : H p = Option.some o) (hk : cellK o = true) : RE K (ρ.cel p) H env σ :=
  ⟨h.1, fun i x q => let ⟨v, h1, h2⟩ := h.2 i x q; ⟨v, h1, h2.cel w hp hk⟩⟩
theorem RE.set {K : PySem.W.Frag} {ρ : Lay} {H : Hp} {env : Ev} {σ : L2.St} {i : Nat} {x : Vl} {v : V} (h : RE K ρ H env σ) (q : RV K ρ H x v) : RE K ρ H (env.set i (some x)) (σ.set i (some v)) := by
  refine ⟨by rw [List.length_set, List.length_set]; exact h.1, fun j y e => ?_⟩
  by_cases hj : i = j
  · subst hj
    have hl : i < env.length := by simpa using (List.getElem?_eq_some_iff.mp e).1
    rw [List.getElem?_set_self hl] at e
    cases e
    exact ⟨v, by rw [List.getElem?_set_self (by rw [← h.1]; exact hl)], q⟩
  · rw [List.getElem?_set_ne hj] at e
    rw [List.getElem?_set_ne hj]
    exact h.2 j y e
theorem RE.unset {K : PySem.W.Frag} {ρ : Lay} {H : Hp} {env : Ev} {σ : L2.St} {i : Nat} {o : Option V} (h : RE K ρ H env σ) : RE K ρ H (env.set i none) (σ.set i o) := by
  refine ⟨by rw [List.length_set, List.length_set]; exact h.1, fun j y e => ?_⟩
  by_cases hj : i = j
  · subst hj
    have hl : i < env.length := by simpa using (List.getElem?_eq_some_iff.mp e).1
    rw [List.getElem?_set_self hl] at e
    cases e
  · rw [List.getElem?_set_ne hj] at e
    rw [List.getElem?_set_ne hj]
    exact h.2 j y e
end Z
namespace Z
open PySem PySem.Spec PyProof.Rows L2
/-- an exception in the air: its class by its name, its fields -/
def XD (K : PySem.W.Frag) (ρ : Lay) (H : Hp) (dd : Option Addr) (fs : List (Str × Vl)) : Prop :=
  match dd with
  | some d => ∃ gs, H d = some (.xd gs) ∧ d ∉ ρ.c ∧ RFs K ρ H fs gs
  | none => fs = []
theorem XD.mono {K : PySem.W.Frag} {ρ ρ' : Lay} {H H' : Hp} {dd : Option Addr} {fs : List (Str × Vl)} (h : XD K ρ H dd fs) (e : Ext ρ H ρ' H') : XD K ρ' H' dd fs := by
  cases dd with
  | none => exact h
  | some d =>
    obtain ⟨gs, h1, n, h2⟩ := h
    exact ⟨gs, e.keep d _ h1 n, e.out h1 n, h2.mono e⟩
/-- what is wanted behind a result -/
def Po {α β : Type} (K : PySem.W.Frag) (ρ : Lay) (H : Hp) (Rel : Lay → Hp → α → β → Prop) (W : Value → Option Addr → Hp → Prop) (Q : β → Hp → Prop) (r : R α) (m' : Mem) : Prop :=
  ∀ ρ' H', RM K ρ' m' H' → Ext ρ H ρ' H' → match r with
    | .ok x => ∀ v, Rel ρ' H' x v → Q v H'
    | .ex c fs => ∀ dd, XD K ρ' H' dd fs → W (.ref (He.ga K c)) dd H'
theorem Po.mono {α β : Type} {K : PySem.W.Frag} {ρ ρ1 : Lay} {H H1 : Hp} {Rel : Lay → Hp → α → β → Prop} {W : Value → Option Addr → Hp → Prop} {Q : β → Hp → Prop} {r : R α} {m' : Mem}
    (h : Po K ρ H Rel W Q r m') (e : Ext ρ H ρ1 H1) : Po K ρ1 H1 Rel W Q r m' := fun ρ' H' M E => h ρ' H' M (e.trans E)
/-- a state -/
structure S (K : PySem.W.Frag) (ρ : Lay) (env : Ev) (m : Mem) (σ : L2.St) (H : Hp) : Prop where
  mem : RM K ρ m H
  env : RE K ρ H env σ
theorem S.to {K : PySem.W.Frag} {ρ ρ' : Lay} {env : Ev} {m m' : Mem} {σ : L2.St} {H H' : Hp} (s : S K ρ env m σ H) (e : Ext ρ H ρ' H') (M : RM K ρ' m' H') : S K ρ' env m' σ H' := ⟨M, s.env.mono e⟩
def rdE (K : PySem.W.Frag) (W : WX) (d : DE) : TE := fun σ H Q => ∃ ρ env m r m', S K ρ env m σ H ∧ d env m = some (r, m') ∧ Po K ρ H (RV K) (fun c dd H' => W c dd σ H') Q r m'
abbrev DT := Ev → Mem → Option (R Bool × Mem)
def rdT (K : PySem.W.Frag) (W : WX) (d : DT) : TT := fun σ H Q => ∃ ρ env m r m', S K ρ env m σ H ∧ d env m = some (r, m') ∧ Po K ρ H (fun _ _ (b c : Bool) => b = c) (fun c dd H' => W c dd σ H') Q r m'
abbrev DA := Ev → Mem → Option (R (List Vl) × Mem)
def rdA (K : PySem.W.Frag) (W : WX) (d : DA) : TA := fun σ H Q => ∃ ρ env m r m', S K ρ env m σ H ∧ d env m = some (r, m') ∧ Po K ρ H (RVs K) (fun c dd H' => W c dd σ H') Q r m'
/-- an expression whose value is a new list (tuple): what it holds -/
def rdL (K : PySem.W.Frag) (W : WX) (d : DA) : TE := fun σ H Q => ∃ ρ env m r m', S K ρ env m σ H ∧ d env m = some (r, m') ∧
  Po K ρ H (fun ρ' H' xs v => ∃ a vs, v = .ref a ∧ Own ρ' H a ∧ H' a = some (.lst vs) ∧ vs.length ≤ sizeLine ∧ RVs K ρ' H' xs vs) (fun c dd H' => W c dd σ H') Q r m'
structure SE (X : Cx) (e : Expr) (d : DE) : Prop where
  run : ∀ W, Takes X W → PE X e (rdE X.K W d)
structure ST (X : Cx) (e : Expr) (d : DT) : Prop where
  run : ∀ W, Takes X W → PT X e (rdT X.K W d)
structure SW (X : Cx) (e : Expr) (d : DT) : Prop where
  run : ∀ W, Takes X W → PW X e (rdT X.K W d)
structure SA (X : Cx) (es : List Expr) (d : DA) : Prop where
  run : ∀ W, Takes X W → PA X es (rdA X.K W d)
structure SL (X : Cx) (e : Expr) (d : DA) : Prop where
  run : ∀ W, Takes X W → PE X e (rdL X.K W d)
/-- flows -/
inductive Fl where
  | nx (env : Ev) | rt (v : Vl) | bk (env : Ev) | ct (env : Ev) | ex (c : Str) (fs : List (Str × Vl)) (env : Ev)
abbrev DS := Ev → Mem → Option (Fl × Mem)
def PoS (K : PySem.W.Frag) (ρ : Lay) (H : Hp) (W : WX) (D : Ends) (f : Fl) (m' : Mem) : Prop :=
  ∀ ρ' H', RM K ρ' m' H' → Ext ρ H ρ' H' → match f with
    | .nx env => ∀ σ, RE K ρ' H' env σ → D.nx σ H'
    | .bk env => ∀ σ, RE K ρ' H' env σ → D.bk σ H'
    | .ct env => ∀ σ, RE K ρ' H' env σ → D.ct σ H'
    | .rt x => ∀ v, RV K ρ' H' x v → D.rt v H'
    | .ex c fs env => ∀ σ, RE K ρ' H' env σ → ∀ dd, XD K ρ' H' dd fs → W (.ref (He.ga K c)) dd σ H'
theorem PoS.mono {K : PySem.W.Frag} {ρ ρ1 : Lay} {H H1 : Hp} {W : WX} {D : Ends} {f : Fl} {m' : Mem} (h : PoS K ρ H W D f m') (e : Ext ρ H ρ1 H1) : PoS K ρ1 H1 W D f m' := fun ρ' H' M E => h ρ' H' M (e.trans E)
def rdS (K : PySem.W.Frag) (W : WX) (d : DS) : TS := fun D σ H => ∃ ρ env m f m', S K ρ env m σ H ∧ d env m = some (f, m') ∧ PoS K ρ H W D f m'
structure SS (X : Cx) (st : Stmt) (d : DS) : Prop where
  run : ∀ W, Takes X W → PS X st (rdS X.K W d)
structure SSs (X : Cx) (st : List Stmt) (d : DS) : Prop where
  run : ∀ W, Takes X W → PSs X st (rdS X.K W d)
section
variable {X : Cx} {e a b c : Expr} {pos : Pos}
theorem impPE {t t' : TE} (h : PE X e t) (q : ∀ σ H Q, t' σ H Q → t σ H Q) : PE X e t' := ⟨fun pins s σ H Q I x => h.run pins s σ H Q I (q σ H Q x)⟩
theorem impPT {t t' : TT} (h : PT X e t) (q : ∀ σ H Q, t' σ H Q → t σ H Q) : PT X e t' := ⟨fun pins s σ H Q I x => h.run pins s σ H Q I (q σ H Q x)⟩
theorem impPW {t t' : TT} (h : PW X e t) (q : ∀ σ H Q, t' σ H Q → t σ H Q) : PW X e t' := ⟨fun w pins s σ H Q I x => h.run w pins s σ H Q I (q σ H Q x)⟩
theorem impPA {es : List Expr} {t t' : TA} (h : PA X es t) (q : ∀ σ H Q, t' σ H Q → t σ H Q) : PA X es t' := ⟨fun p pins s σ H Q I x => h.run p pins s σ H Q I (q σ H Q x)⟩
theorem impPS {st : Stmt} {t t' : TS} (h : PS X st t) (q : ∀ D σ H, t' D σ H → t D σ H) : PS X st t' := ⟨fun pins s σ H D I x => h.run pins s σ H D I (q D σ H x)⟩
theorem impPSs {st : List Stmt} {t t' : TS} (h : PSs X st t) (q : ∀ D σ H, t' D σ H → t D σ H) : PSs X st t' := ⟨fun pins s σ H D I x => h.run pins s σ H D I (q D σ H x)⟩
end
section
variable {K : PySem.W.Frag} {W : WX} {ρ : Lay} {env : Ev} {m m1 : Mem} {σ : L2.St} {H : Hp} {d : DE} {dt : DT} {da : DA}
/-- an expression ends in a value -/
theorem goE {x : Vl} {Q : VK} (s : S K ρ env m σ H) (e : d env m = some (.ok x, m1)) (k : ∀ ρ' H' v, S K ρ' env m1 σ H' → Ext ρ H ρ' H' → RV K ρ' H' x v → Q v H') : rdE K W d σ H Q :=
  ⟨ρ, env, m, _, _, s, e, fun ρ' H' M E v r => k ρ' H' v (s.to E M) E r⟩
theorem exE {c : Str} {fs : List (Str × Vl)} {Q : VK} (s : S K ρ env m σ H) (e : d env m = some (.ex c fs, m1)) (k : ∀ ρ' H' dd, S K ρ' env m1 σ H' → Ext ρ H ρ' H' → XD K ρ' H' dd fs → W (.ref (He.ga K c)) dd σ H') : rdE K W d σ H Q :=
  ⟨ρ, env, m, _, _, s, e, fun ρ' H' M E dd r => k ρ' H' dd (s.to E M) E r⟩
theorem goT {x : Bool} {Q : Bool → Hp → Prop} (s : S K ρ env m σ H) (e : dt env m = some (.ok x, m1)) (k : ∀ ρ' H', S K ρ' env m1 σ H' → Ext ρ H ρ' H' → Q x H') : rdT K W dt σ H Q :=
  ⟨ρ, env, m, _, _, s, e, fun ρ' H' M E v r => by subst r; exact k ρ' H' (s.to E M) E⟩
theorem exT {c : Str} {fs : List (Str × Vl)} {Q : Bool → Hp → Prop} (s : S K ρ env m σ H) (e : dt env m = some (.ex c fs, m1)) (k : ∀ ρ' H' dd, S K ρ' env m1 σ H' → Ext ρ H ρ' H' → XD K ρ' H' dd fs → W (.ref (He.ga K c)) dd σ H') : rdT K W dt σ H Q :=
  ⟨ρ, env, m, _, _, s, e, fun ρ' H' M E dd r => k ρ' H' dd (s.to E M) E r⟩
theorem goA {xs : List Vl} {Q : List V → Hp → Prop} (s : S K ρ env m σ H) (e : da env m = some (.ok xs, m1)) (k : ∀ ρ' H' vs, S K ρ' env m1 σ H' → Ext ρ H ρ' H' → RVs K ρ' H' xs vs → Q vs H') : rdA K W da σ H Q :=
  ⟨ρ, env, m, _, _, s, e, fun ρ' H' M E v r => k ρ' H' v (s.to E M) E r⟩
theorem exA {c : Str} {fs : List (Str × Vl)} {Q : List V → Hp → Prop} (s : S K ρ env m σ H) (e : da env m = some (.ex c fs, m1)) (k : ∀ ρ' H' dd, S K ρ' env m1 σ H' → Ext ρ H ρ' H' → XD K ρ' H' dd fs → W (.ref (He.ga K c)) dd σ H') : rdA K W da σ H Q :=
  ⟨ρ, env, m, _, _, s, e, fun ρ' H' M E dd r => k ρ' H' dd (s.to E M) E r⟩
theorem goL {xs : List Vl} {Q : VK} (s : S K ρ env m σ H) (e : da env m = some (.ok xs, m1)) (k : ∀ ρ' H' a vs, S K ρ' env m1 σ H' → Ext ρ H ρ' H' → Own ρ' H a → H' a = some (.lst vs) → vs.length ≤ sizeLine → RVs K ρ' H' xs vs → Q (.ref a) H') : rdL K W da σ H Q :=
  ⟨ρ, env, m, _, _, s, e, fun ρ' H' M E v r => by
    obtain ⟨a, vs, rfl, h1, h3, h4, h5⟩ := r
    exact k ρ' H' a vs (s.to E M) E h1 h3 h4 h5⟩
theorem exL {c : Str} {fs : List (Str × Vl)} {Q : VK} (s : S K ρ env m σ H) (e : da env m = some (.ex c fs, m1)) (k : ∀ ρ' H' dd, S K ρ' env m1 σ H' → Ext ρ H ρ' H' → XD K ρ' H' dd fs → W (.ref (He.ga K c)) dd σ H') : rdL K W da σ H Q :=
  ⟨ρ, env, m, _, _, s, e, fun ρ' H' M E dd r => k ρ' H' dd (s.to E M) E r⟩
end
/-! ### the parts -/
def bindR {α β : Type} (x : Option (R α × Mem)) (f : α → Mem → Option (R β × Mem)) : Option (R β × Mem) := match x with
  | none => none
  | some (.ok a, m) => f a m
  | some (.ex c fs, m) => some (.ex c fs, m)
def dC (v : Vl) : DE := fun _ m => some (.ok v, m)
def dVar (i : Nat) : DE := fun env m => match env[i]? with
  | some (some v) => some (.ok v, m)
  | _ => none
/-- a two-place operation by values -/
abbrev F2 := Vl → Vl → Mem → Option (Vl × Mem)
def okR {α : Type} : Option (α × Mem) → Option (R α × Mem)
  | none => none
  | some (a, m) => some (.ok a, m)
def d2 (f : F2) (da db : DE) : DE := fun env m => bindR (da env m) fun x m => bindR (db env m) fun y m => okR (f x y m)
def SF2 (K : PySem.W.Frag) (f : F2) (r : R2) : Prop := ∀ (ρ : Lay) (m : Mem) (H : Hp) (x y : Vl) (v u : V) (z : Vl) (m' : Mem) (Q : VK), RM K ρ m H → RV K ρ H x v → RV K ρ H y u → f x y m = some (z, m') →
  (∀ ρ' H' w, RM K ρ' m' H' → Ext ρ H ρ' H' → RV K ρ' H' z w → Q w H') → r v u H Q
theorem okR_some {α : Type} {x : Option (α × Mem)} {r : R α} {m : Mem} (h : okR x = some (r, m)) : ∃ a, x = some (a, m) ∧ r = .ok a := by
  cases x with
  | none => cases h
  | some p => cases h; exact ⟨_, rfl, rfl⟩
section
variable {X : Cx} {e a b c : Expr} {pos : Pos} {da db dc : DE}
theorem se_of {v : V} {x : Vl} (h : PE X e (tC v)) (r : ∀ ρ H, RV X.K ρ H x v) : SE X e (dC x) := ⟨fun W tk => impPE h fun σ H Q ⟨ρ, env, m, z, m', s, e, p⟩ => by
  cases e
  exact p ρ H s.mem .refl v (r ρ H)⟩
theorem se_int {i : Int} {j : Nat} : SE X (.Constant (.int i) j pos) (dC (.int i)) := se_of pe_int fun _ _ => rfl
theorem se_bl {i : Bool} {j : Nat} : SE X (.Constant (.bool i) j pos) (dC (.bl i)) := se_of pe_bl fun _ _ => rfl
theorem se_non {j : Nat} : SE X (.Constant .none j pos) (dC .non) := se_of pe_non fun _ _ => rfl
theorem se_str {i : Str} {j : Nat} : SE X (.Constant (.str i) j pos) (dC (.str i)) := se_of pe_str fun _ _ => rfl
theorem se_var {i : Nat} {x : Str} (hN : X.N[i]? = some x) (hv : Vis X.env.scope x) (hd : (x == ("__debug__" : Str)) = false := by decide) (hcd : (x == ("__classdict__" : Str)) = false := by decide) : SE X (.Name x pos) (dVar i) := ⟨fun W tk =>
  impPE (pe_var hN hv hd hcd) fun σ H Q ⟨ρ, env, m, z, m', s, e, p⟩ => by
    unfold dVar at e
    split at e
    · rename_i v hv'
      cases e
      obtain ⟨u, h1, h2⟩ := s.env.2 _ _ hv'
      exact ⟨u, h1, p ρ H s.mem .refl u h2⟩
    · cases e⟩
theorem bindE {β γ : Type} {K : PySem.W.Frag} {W : WX} {ρ : Lay} {env : Ev} {m m' : Mem} {σ : L2.St} {H : Hp} {d : DE} {f : Vl → Mem → Option (R β × Mem)} {z : R β} {Q : VK} {Rel : Lay → Hp → β → γ → Prop} {Qf : γ → Hp → Prop}
    (s : S K ρ env m σ H) (e : bindR (d env m) f = some (z, m')) (p : Po K ρ H Rel (fun c dd H' => W c dd σ H') Qf z m')
    (k : ∀ x m1 ρ' H' v, S K ρ' env m1 σ H' → Ext ρ H ρ' H' → RV K ρ' H' x v → f x m1 = some (z, m') → Po K ρ' H' Rel (fun c dd H' => W c dd σ H') Qf z m' → Q v H') : rdE K W d σ H Q := by
  unfold bindR at e
  split at e
  · cases e
  · rename_i x m1 h
    exact goE s h fun ρ' H' v s' E r => k x m1 ρ' H' v s' E r e (p.mono E)
  · rename_i c fs m1 h
    cases e
    exact exE s h fun ρ' H' dd s' E r => p ρ' H' s'.mem E dd r
theorem se_2 {f : F2} {r : R2} {op : Operator} (ho : OpR X (binaryOp op) r) (hf : SF2 X.K f r) (ha : SE X a da) (hb : SE X b db) : SE X (.BinOp a op b pos) (d2 f da db) := ⟨fun W tk =>
  impPE (pe_op ho (ha.run W tk) (hb.run W tk)) fun σ H Q ⟨ρ, env, m, z, m', s, e, p⟩ =>
    bindE s e p fun x m1 ρ1 H1 v s1 E1 r1 e1 p1 => bindE s1 e1 p1 fun y m2 ρ2 H2 u s2 E2 r2 e2 p2 => by
      obtain ⟨w, h1, rfl⟩ := okR_some e2
      exact hf ρ2 m2 H2 x y v u w m' Q s2.mem (r1.mono E2) r2 h1 fun ρ' H' u' M E r => p2 ρ' H' M E u' r⟩
end
end Z
namespace Z
open PySem PySem.Spec PyProof.Rows L2
section
variable {α : Type} {K : PySem.W.Frag} {W : WX} {ρ : Lay} {env : Ev} {m m' : Mem} {σ : L2.St} {H : Hp}
/-! ### binds to any end -/
theorem bindE' {β : Type} {d : DE} {f : Vl → Mem → Option (R β × Mem)} {z : R β} {Q : VK} {G : Prop}
    (s : S K ρ env m σ H) (e : bindR (d env m) f = some (z, m'))
    (kx : ∀ c fs ρ' H' dd, z = .ex c fs → S K ρ' env m' σ H' → Ext ρ H ρ' H' → XD K ρ' H' dd fs → W (.ref (He.ga K c)) dd σ H')
    (k : ∀ x m1 ρ' H' v, S K ρ' env m1 σ H' → Ext ρ H ρ' H' → RV K ρ' H' x v → f x m1 = some (z, m') → Q v H') : rdE K W d σ H Q := by
  unfold bindR at e
  split at e
  · cases e
  · rename_i x m1 h
    exact goE s h fun ρ' H' v s' E r => k x m1 ρ' H' v s' E r e
  · rename_i c fs m1 h
    cases e
    exact exE s h fun ρ' H' dd s' E r => kx c fs ρ' H' dd rfl s' E r
theorem bindT {β γ : Type} {d : DT} {f : Bool → Mem → Option (R β × Mem)} {z : R β} {Q : Bool → Hp → Prop} {Rel : Lay → Hp → β → γ → Prop} {Qf : γ → Hp → Prop}
    (s : S K ρ env m σ H) (e : bindR (d env m) f = some (z, m')) (p : Po K ρ H Rel (fun c dd H' => W c dd σ H') Qf z m')
    (k : ∀ x m1 ρ' H', S K ρ' env m1 σ H' → Ext ρ H ρ' H' → f x m1 = some (z, m') → Po K ρ' H' Rel (fun c dd H' => W c dd σ H') Qf z m' → Q x H') : rdT K W d σ H Q := by
  unfold bindR at e
  split at e
  · cases e
  · rename_i x m1 h
    exact goT s h fun ρ' H' s' E => k x m1 ρ' H' s' E e (p.mono E)
  · rename_i c fs m1 h
    cases e
    exact exT s h fun ρ' H' dd s' E r => p ρ' H' s'.mem E dd r
theorem bindA {β γ : Type} {d : DA} {f : List Vl → Mem → Option (R β × Mem)} {z : R β} {Q : List V → Hp → Prop} {Rel : Lay → Hp → β → γ → Prop} {Qf : γ → Hp → Prop}
    (s : S K ρ env m σ H) (e : bindR (d env m) f = some (z, m')) (p : Po K ρ H Rel (fun c dd H' => W c dd σ H') Qf z m')
    (k : ∀ x m1 ρ' H' v, S K ρ' env m1 σ H' → Ext ρ H ρ' H' → RVs K ρ' H' x v → f x m1 = some (z, m') → Po K ρ' H' Rel (fun c dd H' => W c dd σ H') Qf z m' → Q v H') : rdA K W d σ H Q := by
  unfold bindR at e
  split at e
  · cases e
  · rename_i x m1 h
    exact goA s h fun ρ' H' v s' E r => k x m1 ρ' H' v s' E r e (p.mono E)
  · rename_i c fs m1 h
    cases e
    exact exA s h fun ρ' H' dd s' E r => p ρ' H' s'.mem E dd r
theorem bindL {β γ : Type} {d : DA} {f : List Vl → Mem → Option (R β × Mem)} {z : R β} {Q : VK} {Rel : Lay → Hp → β → γ → Prop} {Qf : γ → Hp → Prop}
    (s : S K ρ env m σ H) (e : bindR (d env m) f = some (z, m')) (p : Po K ρ H Rel (fun c dd H' => W c dd σ H') Qf z m')
    (k : ∀ x m1 ρ' H' a vs, S K ρ' env m1 σ H' → Ext ρ H ρ' H' → Own ρ' H a → H' a = some (.lst vs) → vs.length ≤ sizeLine → RVs K ρ' H' x vs → f x m1 = some (z, m') → Po K ρ' H' Rel (fun c dd H' => W c dd σ H') Qf z m' → Q (.ref a) H') : rdL K W d σ H Q := by
  unfold bindR at e
  split at e
  · cases e
  · rename_i x m1 h
    exact goL s h fun ρ' H' a vs s' E h1 h3 h4 r => k x m1 ρ' H' a vs s' E h1 h3 h4 r e (p.mono E)
  · rename_i c fs m1 h
    cases e
    exact exL s h fun ρ' H' dd s' E r => p ρ' H' s'.mem E dd r
/-! ### .. within statements -/
def bindS {α : Type} (x : Option (R α × Mem)) (env : Ev) (f : α → Mem → Option (Fl × Mem)) : Option (Fl × Mem) := match x with
  | none => none
  | some (.ok a, m) => f a m
  | some (.ex c fs, m) => some (.ex c fs env, m)
theorem sbE {d : DE} {f : Vl → Mem → Option (Fl × Mem)} {z : Fl} {Q : VK} {D : Ends}
    (s : S K ρ env m σ H) (e : bindS (d env m) env f = some (z, m')) (p : PoS K ρ H W D z m')
    (k : ∀ x m1 ρ' H' v, S K ρ' env m1 σ H' → Ext ρ H ρ' H' → RV K ρ' H' x v → f x m1 = some (z, m') → PoS K ρ' H' W D z m' → Q v H') : rdE K W d σ H Q := by
  unfold bindS at e
  split at e
  · cases e
  · rename_i x m1 h
    exact goE s h fun ρ' H' v s' E r => k x m1 ρ' H' v s' E r e (p.mono E)
  · rename_i c fs m1 h
    cases e
    exact exE s h fun ρ' H' dd s' E r => p ρ' H' s'.mem E σ s'.env dd r
theorem sbT {d : DT} {f : Bool → Mem → Option (Fl × Mem)} {z : Fl} {Q : Bool → Hp → Prop} {D : Ends}
    (s : S K ρ env m σ H) (e : bindS (d env m) env f = some (z, m')) (p : PoS K ρ H W D z m')
    (k : ∀ x m1 ρ' H', S K ρ' env m1 σ H' → Ext ρ H ρ' H' → f x m1 = some (z, m') → PoS K ρ' H' W D z m' → Q x H') : rdT K W d σ H Q := by
  unfold bindS at e
  split at e
  · cases e
  · rename_i x m1 h
    exact goT s h fun ρ' H' s' E => k x m1 ρ' H' s' E e (p.mono E)
  · rename_i c fs m1 h
    cases e
    exact exT s h fun ρ' H' dd s' E r => p ρ' H' s'.mem E σ s'.env dd r
theorem sbA {d : DA} {f : List Vl → Mem → Option (Fl × Mem)} {z : Fl} {Q : List V → Hp → Prop} {D : Ends}
    (s : S K ρ env m σ H) (e : bindS (d env m) env f = some (z, m')) (p : PoS K ρ H W D z m')
    (k : ∀ x m1 ρ' H' v, S K ρ' env m1 σ H' → Ext ρ H ρ' H' → RVs K ρ' H' x v → f x m1 = some (z, m') → PoS K ρ' H' W D z m' → Q v H') : rdA K W d σ H Q := by
  unfold bindS at e
  split at e
  · cases e
  · rename_i x m1 h
    exact goA s h fun ρ' H' v s' E r => k x m1 ρ' H' v s' E r e (p.mono E)
  · rename_i c fs m1 h
    cases e
    exact exA s h fun ρ' H' dd s' E r => p ρ' H' s'.mem E σ s'.env dd r
theorem sbL {d : DA} {f : List Vl → Mem → Option (Fl × Mem)} {z : Fl} {Q : VK} {D : Ends}
    (s : S K ρ env m σ H) (e : bindS (d env m) env f = some (z, m')) (p : PoS K ρ H W D z m')
    (k : ∀ x m1 ρ' H' a vs, S K ρ' env m1 σ H' → Ext ρ H ρ' H' → Own ρ' H a → H' a = some (.lst vs) → vs.length ≤ sizeLine → RVs K ρ' H' x vs → f x m1 = some (z, m') → PoS K ρ' H' W D z m' → Q (.ref a) H') : rdL K W d σ H Q := by
  unfold bindS at e
  split at e
  · cases e
  · rename_i x m1 h
    exact goL s h fun ρ' H' a vs s' E h1 h3 h4 r => k x m1 ρ' H' a vs s' E h1 h3 h4 r e (p.mono E)
  · rename_i c fs m1 h
    cases e
    exact exL s h fun ρ' H' dd s' E r => p ρ' H' s'.mem E σ s'.env dd r
end
/-! ### expressions of all kinds -/
section
variable {X : Cx} {e a b c : Expr} {pos : Pos} {da db dc : DE} {dt du : DT} {es : List Expr} {d : DA}
theorem sa_nil : SA X [] (fun _ m => some (.ok [], m)) := ⟨fun W tk => impPA pa_nil fun σ H Q ⟨ρ, env, m, z, m', s, e, p⟩ => by
  cases e
  exact p ρ H s.mem .refl [] rfl⟩
def dCons (da : DE) (d : DA) : DA := fun env m => bindR (da env m) fun x m => bindR (d env m) fun xs m => some (.ok (x :: xs), m)
theorem sa_cons (ha : SE X e da) (hr : SA X es d) (hs : starEach (e :: es) X.env = (false, eval e X.env) :: starEach es X.env := by rfl) : SA X (e :: es) (dCons da d) := ⟨fun W tk =>
  impPA (pa_cons (ha.run W tk) (hr.run W tk) hs) fun σ H Q ⟨ρ, env, m, z, m', s, e, p⟩ =>
    bindE s e p fun x m1 ρ1 H1 v s1 E1 r1 e1 p1 => bindA s1 e1 p1 fun xs m2 ρ2 H2 vs s2 E2 r2 e2 p2 => by
      cases e2
      exact p2 ρ2 H2 s2.mem .refl _ ⟨v, vs, rfl, r1.mono E2, r2⟩⟩
/-- a written tuple -/
def dTup (d : DA) : DE := fun env m => bindR (d env m) fun xs m => if xs.length ≤ sizeLine then some (.ok (.tup xs), m) else none
theorem se_tup {k : Nat} (h : SA X es d) : SE X (.Tuple es k pos) (dTup d) := ⟨fun W tk =>
  impPE (pe_tup (h.run W tk)) fun σ H Q ⟨ρ, env, m, z, m', s, e, p⟩ => bindA s e p fun xs m1 ρ1 H1 vs s1 E1 r1 e1 p1 => by
    by_cases hz : xs.length ≤ sizeLine
    · rw [if_pos hz] at e1
      cases e1
      refine ⟨by rw [← r1.length]; exact hz, fun q hq => ?_⟩
      refine p1 ρ1 _ (s1.mem.laid hq) (ext_new hq) _ ⟨q, vs, rfl, .inl ⟨s1.mem.fresh hq, .inl upd_same⟩, r1.mono (ext_new hq)⟩
    · rw [if_neg hz] at e1
      cases e1⟩
/-- a written list, whose value is new -/
def dLst (d : DA) : DA := fun env m => bindR (d env m) fun xs m => if xs.length ≤ sizeLine then some (.ok xs, m) else none
theorem sl_lst (h : SA X es d) : SL X (.List es pos) (dLst d) := ⟨fun W tk =>
  impPE (pe_lst (h.run W tk)) fun σ H Q ⟨ρ, env, m, z, m', s, e, p⟩ => bindA s e p fun xs m1 ρ1 H1 vs s1 E1 r1 e1 p1 => by
    by_cases hz : xs.length ≤ sizeLine
    · rw [if_pos hz] at e1
      cases e1
      refine ⟨by rw [← r1.length]; exact hz, fun q hq => ?_⟩
      refine p1 ρ1 _ (s1.mem.laid hq) (ext_new hq) _ ⟨q, vs, rfl, ⟨s1.mem.fresh hq, s1.mem.freshz hq, E1.none hq⟩, upd_same, by rw [← r1.length]; exact hz, r1.mono (ext_new hq)⟩
    · rw [if_neg hz] at e1
      cases e1⟩
/-- a list as a value that nobody changes; as a cell -/
def dFrz (d : DA) : DE := fun env m => bindR (d env m) fun xs m => some (.ok (.lst xs), m)
def dNew (d : DA) : DE := fun env m => bindR (d env m) fun xs m => some (.ok (.obj m.length), m ++ [.lst xs])
theorem S.frz {K : PySem.W.Frag} {ρ : Lay} {env : Ev} {m : Mem} {σ : L2.St} {H : Hp} {p : Addr} {o : HO} (s : S K ρ env m σ H) (w : p ∉ ρ.c) (hp : H p = some o) : S K (ρ.frz p) env m σ H := ⟨s.mem.toFrz w hp, s.env.frz w⟩
theorem S.cel {K : PySem.W.Frag} {ρ : Lay} {env : Ev} {m : Mem} {σ : L2.St} {H : Hp} {p : Addr} {o : HO} {c : Cell} (s : S K ρ env m σ H) (w : p ∉ ρ.c) (wz : p ∉ ρ.z) (hp : H p = some o) (hk : cellK o = true) (hc : RC K ρ H p c) : S K (ρ.cel p) env (m ++ [c]) σ H :=
  ⟨s.mem.toCel w wz hp hk hc, s.env.cel wz hp hk⟩
theorem se_frz (h : SL X e d) : SE X e (dFrz d) := ⟨fun W tk => impPE (h.run W tk) fun σ H Q ⟨ρ, env, m, z, m', s, e, p⟩ => by
  unfold dFrz bindR at e
  split at e
  · cases e
  · rename_i xs m1 h0
    cases e
    refine goL s h0 fun ρ' H' a vs s' E w h3 h4 r => ?_
    exact p (ρ'.frz a) H' (s'.frz w.c h3).mem (E.toFrz w) _ ⟨a, vs, rfl, ⟨mem_frz.mpr (.inr rfl), w.c⟩, h3, r.frz w.c⟩
  · rename_i c fs m1 h0
    cases e
    exact exL s h0 fun ρ' H' dd s' E r => p ρ' H' s'.mem E dd r⟩
theorem se_new (h : SL X e d) : SE X e (dNew d) := ⟨fun W tk => impPE (h.run W tk) fun σ H Q ⟨ρ, env, m, z, m', s, e, p⟩ => by
  unfold dNew bindR at e
  split at e
  · cases e
  · rename_i xs m1 h0
    cases e
    refine goL s h0 fun ρ' H' a vs s' E w h3 h4 r => ?_
    exact p (ρ'.cel a) H' (s'.cel (c := .lst xs) w.c w.z h3 rfl ⟨vs, h3, r⟩).mem (E.toCel w) _ ⟨a, rfl, by
      show (ρ'.c ++ [a])[m1.length]? = some a
      rw [← s'.mem.len]
      simp⟩
  · rename_i c fs m1 h0
    cases e
    exact exL s h0 fun ρ' H' dd s' E r => p ρ' H' s'.mem E dd r⟩
end
end Z
namespace Z
open PySem PySem.Spec PyProof.Rows L2
/-! ### statements -/
section
variable {X : Cx} {st : Stmt} {rest body orelse : List Stmt} {e : Expr} {pos : Pos} {d d1 d2 dt du : DS} {de : DE} {c : DT} {da : DA}
def dNil : DS := fun env m => some (.nx env, m)
theorem sss_nil : SSs X [] dNil := ⟨fun W tk => impPSs pss_nil fun D σ H ⟨ρ, env, m, f, m', s, e, p⟩ => by
  cases e
  exact p ρ H s.mem .refl σ s.env⟩
def thenS (x : Option (Fl × Mem)) (k : Ev → Mem → Option (Fl × Mem)) : Option (Fl × Mem) := match x with
  | some (.nx env, m) => k env m
  | r => r
def dSeq (d1 d2 : DS) : DS := fun env m => thenS (d1 env m) d2
/-- a statement ahead of others -/
theorem rdS_seq {K : PySem.W.Frag} {W : WX} {D : Ends} {σ : L2.St} {H : Hp} (h : rdS K W (dSeq d1 d2) D σ H) : rdS K W d1 { D with nx := rdS K W d2 D } σ H := by
  obtain ⟨ρ, env, m, f, m', s, e, p⟩ := h
  cases h1 : d1 env m with
  | none =>
    unfold dSeq thenS at e
    rw [h1] at e
    cases e
  | some r =>
    obtain ⟨g, m1⟩ := r
    refine ⟨ρ, env, m, g, m1, s, h1, fun ρ' H' M E => ?_⟩
    unfold dSeq thenS at e
    rw [h1] at e
    cases g with
    | nx env1 => exact fun σ1 r1 => ⟨ρ', env1, m1, f, m', ⟨M, r1⟩, e, p.mono E⟩
    | rt v => cases e; exact fun v' r1 => p ρ' H' M E v' r1
    | bk env1 => cases e; exact fun σ1 r1 => p ρ' H' M E σ1 r1
    | ct env1 => cases e; exact fun σ1 r1 => p ρ' H' M E σ1 r1
    | ex k fs env1 => cases e; exact fun σ1 r1 dd x => p ρ' H' M E σ1 r1 dd x
theorem sss_cons (h1 : SS X st d1) (h2 : SSs X rest d2) : SSs X (st :: rest) (dSeq d1 d2) := ⟨fun W tk => impPSs (pss_cons (h1.run W tk) (h2.run W tk)) fun D σ H h => rdS_seq h⟩
theorem sss_one (h1 : SS X st d1) : SSs X [st] d1 := ⟨fun W tk => pss_one (h1.run W tk)⟩
theorem ss_pass : SS X (.Pass pos) dNil := ⟨fun W tk => impPS ps_pass fun D σ H ⟨ρ, env, m, f, m', s, e, p⟩ => by
  cases e
  exact p ρ H s.mem .refl σ s.env⟩
theorem ss_doc {x : Str} {j : Nat} {pos' : Pos} : SS X (.Expr (.Constant (.str x) j pos) pos') dNil := ⟨fun W tk => impPS ps_doc fun D σ H ⟨ρ, env, m, f, m', s, e, p⟩ => by
  cases e
  exact p ρ H s.mem .refl σ s.env⟩
def dBrk : DS := fun env m => some (.bk env, m)
def dCnt : DS := fun env m => some (.ct env, m)
theorem ss_break : SS X (.Break pos) dBrk := ⟨fun W tk => impPS ps_break fun D σ H ⟨ρ, env, m, f, m', s, e, p⟩ => by
  cases e
  exact p ρ H s.mem .refl σ s.env⟩
theorem ss_continue : SS X (.Continue pos) dCnt := ⟨fun W tk => impPS ps_continue fun D σ H ⟨ρ, env, m, f, m', s, e, p⟩ => by
  cases e
  exact p ρ H s.mem .refl σ s.env⟩
def dNever : DS := fun _ _ => none
theorem ss_never : SS X st dNever := ⟨fun W tk => impPS ps_never fun D σ H ⟨ρ, env, m, f, m', s, e, p⟩ => by cases e⟩
def dDrop (d : DE) : DS := fun env m => bindS (d env m) env fun _ m => some (.nx env, m)
theorem ss_expr (he : SE X e de) (hs : swapsWith e none pos.line X.env = pure false := by rfl) : SS X (.Expr e pos) (dDrop de) := ⟨fun W tk =>
  impPS (ps_expr (he.run W tk) hs) fun D σ H ⟨ρ, env, m, f, m', s, e, p⟩ => sbE s e p fun x m1 ρ1 H1 v s1 E1 r1 e1 p1 => by
    cases e1
    exact p1 ρ1 H1 s1.mem .refl σ s1.env⟩
def dRet (d : DE) : DS := fun env m => bindS (d env m) env fun x m => some (.rt x, m)
theorem ss_ret (he : SE X e de) : SS X (.Return (some e) pos) (dRet de) := ⟨fun W tk =>
  impPS (ps_ret (he.run W tk)) fun D σ H ⟨ρ, env, m, f, m', s, e, p⟩ => sbE s e p fun x m1 ρ1 H1 v s1 E1 r1 e1 p1 => by
    cases e1
    exact p1 ρ1 H1 s1.mem .refl v r1⟩
def dRetN : DS := fun _ m => some (.rt .non, m)
theorem ss_retN : SS X (.Return none pos) dRetN := ⟨fun W tk => impPS ps_retN fun D σ H ⟨ρ, env, m, f, m', s, e, p⟩ => by
  cases e
  exact p ρ H s.mem .refl .non rfl⟩
def dIfS (c : DT) (d1 d2 : DS) : DS := fun env m => bindS (c env m) env fun b m => if b = true then d1 env m else d2 env m
theorem ss_if {t : Expr} (hc : ST X t c) (h1 : SSs X body d1) (h2 : SSs X orelse d2) : SS X (.If t body orelse pos) (dIfS c d1 d2) := ⟨fun W tk =>
  impPS (ps_if (hc.run W tk) (h1.run W tk) (h2.run W tk)) fun D σ H ⟨ρ, env, m, f, m', s, e, p⟩ => sbT s e p fun b m1 ρ1 H1 s1 E1 e1 p1 => by
    cases b with
    | true =>
      rw [if_pos rfl] at e1
      show rdS X.K W d1 D σ H1
      exact ⟨ρ1, env, m1, f, m', s1, e1, p1⟩
    | false =>
      rw [if_neg (by decide)] at e1
      show rdS X.K W d2 D σ H1
      exact ⟨ρ1, env, m1, f, m', s1, e1, p1⟩⟩
def dAsg (i : Nat) (d : DE) : DS := fun env m => bindS (d env m) env fun x m => some (.nx (env.set i (some x)), m)
theorem ss_set {i : Nat} {x : Str} {pos' : Pos} (hN : X.N.Nodup) (hi : X.N[i]? = some x) (hx : Loc X.env.scope x) (he : SE X e de) (hs : swapsWith e (some (.Name x pos')) pos.line X.env = pure false := by rfl) (hf : X.fn x = true ∨ X.env.scope.names.lookup x = some .local := by first | exact .inl rfl | exact .inr rfl | assumption) :
    SS X (.Assign [.Name x pos'] e pos) (dAsg i de) := ⟨fun W tk =>
  impPS (ps_set hN hi hx (he.run W tk) hs hf) fun D σ H ⟨ρ, env, m, f, m', s, e, p⟩ => sbE s e p fun x m1 ρ1 H1 v s1 E1 r1 e1 p1 => by
    cases e1
    exact p1 ρ1 H1 s1.mem .refl _ (s1.env.set r1)⟩
/-! ### targets -/
/-- a target: the value, the slots, the memory; the slots and the memory behind it -/
abbrev DG := Vl → Ev → Mem → Option (Ev × Mem)
def rdG (K : PySem.W.Frag) (d : DG) : TG := fun v σ H Q => ∃ ρ env m x env' m', S K ρ env m σ H ∧ RV K ρ H x v ∧ d x env m = some (env', m') ∧ ∀ ρ' H' σ', S K ρ' env' m' σ' H' → Ext ρ H ρ' H' → Q σ' H'
structure SG (X : Cx) (t : Expr) (d : DG) : Prop where
  run : ∀ W, Takes X W → PG X t (rdG X.K d)
def rdGs (K : PySem.W.Frag) (d : List Vl → Ev → Mem → Option (Ev × Mem)) : TGs := fun vs σ H Q => ∃ ρ env m xs env' m', S K ρ env m σ H ∧ RVs K ρ H xs vs ∧ d xs env m = some (env', m') ∧ ∀ ρ' H' σ', S K ρ' env' m' σ' H' → Ext ρ H ρ' H' → Q σ' H'
structure SGs (X : Cx) (ts : List Expr) (d : List Vl → Ev → Mem → Option (Ev × Mem)) : Prop where
  run : ∀ W, Takes X W → PGs X ts (rdGs X.K d)
theorem impPG {t : Expr} {g g' : TG} (h : PG X t g) (q : ∀ v σ H Q, g' v σ H Q → g v σ H Q) : PG X t g' := ⟨fun pins s σ H v u Q I r x => h.run pins s σ H v u Q I r (q v σ H Q x)⟩
theorem impPGs {t : List Expr} {g g' : TGs} (h : PGs X t g) (q : ∀ v σ H Q, g' v σ H Q → g v σ H Q) : PGs X t g' := ⟨fun pins s σ H v u Q I r x => h.run pins s σ H v u Q I r (q v σ H Q x)⟩
def gVar (i : Nat) : DG := fun x env m => some (env.set i (some x), m)
theorem sg_name {i : Nat} {x : Str} (hN : X.N.Nodup) (hi : X.N[i]? = some x) (hx : Loc X.env.scope x) (hf : X.fn x = true ∨ X.env.scope.names.lookup x = some .local := by first | exact .inl rfl | exact .inr rfl | assumption) : SG X (.Name x pos) (gVar i) :=
  ⟨fun W tk => impPG (pg_name hN hi hx hf) fun v σ H Q ⟨ρ, env, m, x, env', m', s, r, e, p⟩ => by
    cases e
    exact p ρ H _ ⟨s.mem, s.env.set r⟩ .refl⟩
def gsNil : List Vl → Ev → Mem → Option (Ev × Mem) := fun xs env m => match xs with
  | [] => some (env, m)
  | _ => none
def gsCons (d : DG) (ds : List Vl → Ev → Mem → Option (Ev × Mem)) : List Vl → Ev → Mem → Option (Ev × Mem) := fun xs env m => match xs with
  | x :: r => (match d x env m with
    | some (env1, m1) => ds r env1 m1
    | none => none)
  | [] => none
theorem sgs_nil : SGs X [] gsNil := ⟨fun W tk => impPGs pgs_nil fun v σ H Q ⟨ρ, env, m, xs, env', m', s, r, e, p⟩ => by
  cases xs with
  | nil =>
    cases e
    exact ⟨r, p ρ H _ s .refl⟩
  | cons x xs => cases e⟩
theorem sgs_cons {t : Expr} {ts : List Expr} {dg : DG} {ds : List Vl → Ev → Mem → Option (Ev × Mem)} (h1 : SG X t dg) (h2 : SGs X ts ds)
    (hs : (assignEach (t :: ts) X.env).map (·.2) = assign t X.env :: (assignEach ts X.env).map (·.2) := by rfl) : SGs X (t :: ts) (gsCons dg ds) := ⟨fun W tk => impPGs (pgs_cons (h1.run W tk) (h2.run W tk) hs) fun v σ H Q ⟨ρ, env, m, xs, env', m', s, r, e, p⟩ => by
  cases xs with
  | nil => cases e
  | cons x xs =>
    obtain ⟨v, vs, rfl, r1, r2⟩ := r
    cases h : dg x env m with
    | none =>
      simp only [gsCons, h] at e
      cases e
    | some q =>
      obtain ⟨env1, m1⟩ := q
      refine ⟨v, vs, rfl, ρ, env, m, x, env1, m1, s, r1, h, fun ρ' H' σ' s' E => ⟨ρ', env1, m1, xs, env', m', s', r2.mono E, ?_, fun ρ2 H2 σ2 s2 E2 => p ρ2 H2 σ2 s2 (E.trans E2)⟩⟩
      simp only [gsCons, h] at e
      exact e⟩
/-- a, b = a tuple -/
def gTupD (ds : List Vl → Ev → Mem → Option (Ev × Mem)) : DG := fun x env m => match x with
  | .tup xs => ds xs env m
  | _ => none
def GsLen (ds : List Vl → Ev → Mem → Option (Ev × Mem)) (n : Nat) : Prop := ∀ xs env m r, ds xs env m = some r → xs.length = n
theorem gsl_nil : GsLen gsNil 0 := fun xs env m r h => by
  cases xs with
  | nil => rfl
  | cons x xs => cases h
theorem gsl_cons {dg : DG} {ds : List Vl → Ev → Mem → Option (Ev × Mem)} {n : Nat} (h : GsLen ds n) : GsLen (gsCons dg ds) (n + 1) := fun xs env m r e => by
  cases xs with
  | nil => cases e
  | cons x xs =>
    cases q : dg x env m with
    | none =>
      simp only [gsCons, q] at e
      cases e
    | some z =>
      simp only [gsCons, q] at e
      rw [List.length_cons, h _ _ _ _ e]
theorem sg_tup {es : List Expr} {k n : Nat} {ds : List Vl → Ev → Mem → Option (Ev × Mem)} (hc : X.calm = true) (h : SGs X es ds) (hl : GsLen ds n)
    (hn : (assignEach es X.env).length = n := by rfl) (hst : (assignEach es X.env).findIdx? (·.1) = none := by rfl) : SG X (.Tuple es k pos) (gTupD ds) := ⟨fun W tk => impPG (pg_tup hc (h.run W tk) hn hst) fun v σ H Q ⟨ρ, env, m, x, env', m', s, r, e, p⟩ => by
  unfold gTupD at e
  split at e
  · rename_i xs
    obtain ⟨a, vs, rfl, h2, h3⟩ := r
    exact ⟨a, vs, rfl, h2.sq, by rw [← h3.length]; exact hl _ _ _ _ e, ρ, env, m, xs, env', m', s, h3, e, p⟩
  · cases e⟩
/-- target = value -/
def dAsgG (g : DG) (d : DE) : DS := fun env m => bindS (d env m) env fun x m => match g x env m with
  | some (env', m') => some (.nx env', m')
  | none => none
theorem ss_asg {tg : Expr} {g : DG} (he : SE X e de) (hg : SG X tg g) (hs : swapsWithSole [tg] e pos.line X.env = pure false := by rfl) (hw : swappedStores [tg] e X.env = pure none := by rfl)
    (h1 : (assignEach [tg] X.env).map (·.2) = [assign tg X.env] := by rfl) : SS X (.Assign [tg] e pos) (dAsgG g de) := ⟨fun W tk =>
  impPS (ps_asg (he.run W tk) (hg.run W tk) hs hw h1) fun D σ H ⟨ρ, env, m, f, m', s, e, p⟩ => sbE s e p fun x m1 ρ1 H1 v s1 E1 r1 e1 p1 => by
    split at e1
    · rename_i env' m2 hg'
      cases e1
      exact ⟨ρ1, env, m1, x, env', _, s1, r1, hg', fun ρ' H' σ' s' E => p1 ρ' H' s'.mem E σ' s'.env⟩
    · cases e1⟩
/-- a, b = x, y -/
def dPar (i j : Nat) (d : DA) : DS := fun env m => bindS (d env m) env fun xs m => match xs with
  | [x, y] => some (.nx ((env.set i (some x)).set j (some y)), m)
  | _ => none
theorem ss_par {i j : Nat} {x y : Str} {a b : Expr} {px py pt : Pos} {kt k2 : Nat} {pt2 : Pos} (hc : X.calm = true) (hN : X.N.Nodup) (hi : X.N[i]? = some x) (hj : X.N[j]? = some y) (hij : i ≠ j)
    (hx : X.env.scope.names.lookup x = some .local) (hy : X.env.scope.names.lookup y = some .local) (ha : SA X [a, b] da)
    (hw : swappedStores [.Tuple [.Name x px, .Name y py] kt pt] (.Tuple [a, b] k2 pt2) X.env = pure (some [x, y]))
    (hs : swapsWithSole [.Tuple [.Name x px, .Name y py] kt pt] (.Tuple [a, b] k2 pt2) pos.line X.env = pure false := by rfl) :
    SS X (.Assign [.Tuple [.Name x px, .Name y py] kt pt] (.Tuple [a, b] k2 pt2) pos) (dPar i j da) := ⟨fun W tk =>
  impPS (ps_par hc hN hi hj hij hx hy (ha.run W tk) hw hs) fun D σ H ⟨ρ, env, m, f, m', s, e, p⟩ => sbA s e p fun xs m1 ρ1 H1 vs s1 E1 r1 e1 p1 => by
    split at e1
    · rename_i x y
      cases e1
      obtain ⟨v, vs, rfl, r2, w, ws, rfl, r3, r4⟩ := r1
      subst r4
      exact ⟨v, w, rfl, p1 ρ1 H1 s1.mem .refl _ ((s1.env.set r2).set r3)⟩
    · cases e1⟩
end
end Z
namespace Z
open PySem PySem.Spec PyProof.Rows L2
/-! ### operators by values -/
def orF (f g : F2) : F2 := fun x y m => match f x y m with
  | some r => some r
  | none => g x y m
section
variable {K : PySem.W.Frag} {f g : F2} {r r' : R2}
theorem sf_or (h : SF2 K f r) (h' : SF2 K g r') : SF2 K (orF f g) (fun x y H Q => r x y H Q ∨ r' x y H Q) := fun ρ m H x y v u z m' Q M a b e k => by
  unfold orF at e
  split at e
  · rename_i q hq
    cases e
    exact .inl (h ρ m H x y v u z m' Q M a b hq k)
  · exact .inr (h' ρ m H x y v u z m' Q M a b e k)
/-! lists that may be written; sequences that may be read -/
def lsD (m : Mem) : Vl → Option (List Vl)
  | .lst xs => some xs
  | .obj n => (match m[n]? with
    | some (.lst xs) => some xs
    | _ => none)
  | _ => none
theorem lsD_ok {ρ : Lay} {m : Mem} {H : Hp} {x : Vl} {v : V} {xs : List Vl} (M : RM K ρ m H) (a : RV K ρ H x v) (h : lsD m x = some xs) : ∃ p vs, v = .ref p ∧ H p = some (.lst vs) ∧ RVs K ρ H xs vs := by
  unfold lsD at h
  split at h
  · cases h
    obtain ⟨p, vs, rfl, _, h1, h2⟩ := a
    exact ⟨p, vs, rfl, h1, h2⟩
  · rename_i n
    split at h
    · rename_i ys hy
      cases h
      obtain ⟨p, rfl, hp⟩ := a
      obtain ⟨vs, h1, h2⟩ := M.at_ _ _ _ hy hp
      exact ⟨p, vs, rfl, h1, h2⟩
    · cases h
  · cases h
def seqD (m : Mem) : Vl → Option (List Vl)
  | .lst xs => some xs
  | .frl xs => some xs
  | .tup xs => some xs
  | .obj n => (match m[n]? with
    | some (.lst xs) => some xs
    | _ => none)
  | _ => none
theorem seqD_ok {ρ : Lay} {m : Mem} {H : Hp} {x : Vl} {v : V} {xs : List Vl} (M : RM K ρ m H) (a : RV K ρ H x v) (h : seqD m x = some xs) : ∃ p vs, v = .ref p ∧ (SqL K H p vs ∨ SqT K H p vs) ∧ RVs K ρ H xs vs := by
  unfold seqD at h
  split at h
  · cases h
    obtain ⟨p, vs, rfl, _, h1, h2⟩ := a
    exact ⟨p, vs, rfl, .inl (SqL.of h1), h2⟩
  · cases h
    obtain ⟨p, vs, rfl, h1, h2⟩ := a
    exact ⟨p, vs, rfl, .inl h1.sq, h2⟩
  · cases h
    obtain ⟨p, vs, rfl, h1, h2⟩ := a
    exact ⟨p, vs, rfl, .inr h1.sq, h2⟩
  · rename_i n
    split at h
    · rename_i ys hy
      cases h
      obtain ⟨p, rfl, hp⟩ := a
      obtain ⟨vs, h1, h2⟩ := M.at_ _ _ _ hy hp
      exact ⟨p, vs, rfl, .inl (SqL.of h1), h2⟩
    · cases h
  · cases h
def lisD (m : Mem) : Vl → Option (List Vl)
  | .tup _ => none
  | x => seqD m x
theorem lisD_ok {ρ : Lay} {m : Mem} {H : Hp} {x : Vl} {v : V} {xs : List Vl} (M : RM K ρ m H) (a : RV K ρ H x v) (h : lisD m x = some xs) : ∃ p vs, v = .ref p ∧ SqL K H p vs ∧ RVs K ρ H xs vs := by
  cases x with
  | lst ys =>
    cases h
    obtain ⟨p, vs, rfl, _, h1, h2⟩ := a
    exact ⟨p, vs, rfl, SqL.of h1, h2⟩
  | frl ys =>
    cases h
    obtain ⟨p, vs, rfl, h1, h2⟩ := a
    exact ⟨p, vs, rfl, h1.sq, h2⟩
  | obj n =>
    have h' : lsD m (.obj n) = some xs := h
    obtain ⟨p, vs, h1, h2, h3⟩ := lsD_ok M a h'
    exact ⟨p, vs, h1, SqL.of h2, h3⟩
  | _ => cases h
/-! ints -/
def intF (C : Int → Int → Bool) (g : Int → Int → Vl) : F2 := fun x y m => match x, y with
  | .int i, .int j => if C i j = true then some (g i j, m) else none
  | _, _ => none
theorem sf_int {C : Int → Int → Bool} {P : Int → Int → Prop} {g : Int → Int → Vl} {gv : Int → Int → V} (hC : ∀ i j, C i j = true → P i j) (hg : ∀ i j ρ H, RV K ρ H (g i j) (gv i j)) : SF2 K (intF C g) (rI P gv) := fun ρ m H x y v u z m' Q M a b e k => by
  unfold intF at e
  split at e
  · rename_i i j
    split at e
    · rename_i c
      cases e
      exact ⟨i, j, a, b, hC i j c, k ρ H _ M .refl (hg i j ρ H)⟩
    · cases e
  · cases e
theorem sf_int0 {g : Int → Int → Vl} {gv : Int → Int → V} (hg : ∀ i j ρ H, RV K ρ H (g i j) (gv i j)) : SF2 K (intF (fun _ _ => true) g) (rI0 gv) := fun ρ m H x y v u z m' Q M a b e k => by
  unfold intF at e
  split at e
  · rename_i i j
    rw [if_pos rfl] at e
    cases e
    exact ⟨i, j, a, b, k ρ H _ M .refl (hg i j ρ H)⟩
  · cases e
def T2 : Int → Int → Bool := fun _ _ => true
def addI : F2 := intF T2 fun i j => .int (i + j)
def subI : F2 := intF T2 fun i j => .int (i - j)
def mulC (i j : Int) : Bool := (decide (-(2 ^ 64) < i) && decide (i < 2 ^ 64)) || (decide (-(2 ^ 64) < j) && decide (j < 2 ^ 64))
def mulI : F2 := intF mulC fun i j => .int (i * j)
def divI : F2 := intF (fun _ j => decide (0 < j) && decide (j < 1073741824)) fun i j => .int (i / j)
def modI : F2 := intF (fun _ j => decide (0 < j)) fun i j => .int (i % j)
def powI : F2 := intF (fun i j => decide (0 ≤ j) && (decide (j ≤ 1000000) && decide (i.natAbs < 2 ^ 64))) fun i j => .int (i ^ j.toNat)
theorem sf_addI : SF2 K addI (rI0 fun i j => .int (i + j)) := sf_int0 fun _ _ _ _ => rfl
theorem sf_subI : SF2 K subI (rI0 fun i j => .int (i - j)) := sf_int0 fun _ _ _ _ => rfl
theorem sf_mulI : SF2 K mulI (rI CMul fun i j => .int (i * j)) := sf_int (fun i j h => by
  unfold mulC at h
  simp only [Bool.or_eq_true, Bool.and_eq_true, decide_eq_true_eq] at h
  exact h) fun _ _ _ _ => rfl
theorem sf_divI : SF2 K divI (rI CDiv fun i j => .int (i / j)) := sf_int (fun i j h => by
  simp only [Bool.and_eq_true, decide_eq_true_eq] at h
  exact h) fun _ _ _ _ => rfl
theorem sf_modI : SF2 K modI (rI (fun _ j => 0 < j) fun i j => .int (i % j)) := sf_int (fun i j h => by
  simp only [decide_eq_true_eq] at h
  exact h) fun _ _ _ _ => rfl
theorem sf_powI : SF2 K powI (rI CPow fun i j => .int (i ^ j.toNat)) := sf_int (fun i j h => by
  simp only [Bool.and_eq_true, decide_eq_true_eq] at h
  exact h) fun _ _ _ _ => rfl
def ltI : F2 := intF T2 fun i j => .bl (decide (i < j))
def leI : F2 := intF T2 fun i j => .bl (decide (i ≤ j))
def gtI : F2 := intF T2 fun i j => .bl (decide (j < i))
def geI : F2 := intF T2 fun i j => .bl (decide (j ≤ i))
theorem sf_ltI : SF2 K ltI (rI0 fun i j => .bl (decide (i < j))) := sf_int0 fun _ _ _ _ => rfl
theorem sf_leI : SF2 K leI (rI0 fun i j => .bl (decide (i ≤ j))) := sf_int0 fun _ _ _ _ => rfl
theorem sf_gtI : SF2 K gtI (rI0 fun i j => .bl (decide (j < i))) := sf_int0 fun _ _ _ _ => rfl
theorem sf_geI : SF2 K geI (rI0 fun i j => .bl (decide (j ≤ i))) := sf_int0 fun _ _ _ _ => rfl
/-! texts, lists, tuples -/
def addS : F2 := fun x y m => match x, y with
  | .str i, .str j => if i.length + j.length ≤ sizeLine then some (.str (i ++ j), m) else none
  | _, _ => none
theorem sf_addS : SF2 K addS (fun x y H Q => ∃ i j, x = .str i ∧ y = .str j ∧ i.length + j.length ≤ sizeLine ∧ Q (.str (i ++ j)) H) := fun ρ m H x y v u z m' Q M a b e k => by
  unfold addS at e
  split at e
  · rename_i i j
    split at e
    · rename_i c
      cases e
      exact ⟨i, j, a, b, c, k ρ H _ M .refl rfl⟩
    · cases e
  · cases e
theorem ext_frz {ρ : Lay} {H : Hp} {p : Addr} {o : HO} {m : Mem} (M : RM K ρ m H) (hp : H p = none) : Ext ρ H (ρ.frz p) (upd H p o) := (ext_new (o := o) hp).toFrz ⟨M.fresh hp, M.freshz hp, hp⟩
theorem rm_frz {ρ : Lay} {H : Hp} {p : Addr} {o : HO} {m : Mem} (M : RM K ρ m H) (hp : H p = none) : RM K (ρ.frz p) m (upd H p o) := (M.laid hp).toFrz (M.fresh hp) upd_same
/-- a new list that nobody changes -/
theorem new_lst {ρ : Lay} {H : Hp} {p : Addr} {m : Mem} {xs : List Vl} {vs : List V} (M : RM K ρ m H) (hp : H p = none) (r : RVs K ρ H xs vs) : RV K (ρ.frz p) (upd H p (.lst vs)) (.lst xs) (.ref p) :=
  ⟨p, vs, rfl, ⟨mem_frz.mpr (.inr rfl), M.fresh hp⟩, upd_same, r.mono (ext_frz M hp)⟩
theorem new_tup {ρ : Lay} {H : Hp} {p : Addr} {m : Mem} {xs : List Vl} {vs : List V} (M : RM K ρ m H) (hp : H p = none) (r : RVs K ρ H xs vs) : RV K ρ (upd H p (.tup vs)) (.tup xs) (.ref p) :=
  ⟨p, vs, rfl, .inl ⟨M.fresh hp, .inl upd_same⟩, r.mono (ext_new hp)⟩
def addL : F2 := fun x y m => match lsD m x, lsD m y with
  | some a, some b => if a.length + b.length ≤ sizeLine then some (.lst (a ++ b), m) else none
  | _, _ => none
theorem sf_addL : SF2 K addL rCat := fun ρ m H x y v u z m' Q M a b e k => by
  unfold addL at e
  split at e
  · rename_i xs ys hx hy
    split at e
    · rename_i c
      cases e
      obtain ⟨p, vs, rfl, h1, h2⟩ := lsD_ok M a hx
      obtain ⟨q, ws, rfl, h3, h4⟩ := lsD_ok M b hy
      exact ⟨p, q, vs, ws, rfl, rfl, h1, h3, by rw [← h2.length, ← h4.length]; exact c, fun n hn => k _ _ _ (rm_frz M hn) (ext_frz M hn) (new_lst M hn (h2.append h4))⟩
    · cases e
  · cases e
def addT : F2 := fun x y m => match x, y with
  | .tup a, .tup b => if (!a.isEmpty && decide (a.length + b.length ≤ sizeLine)) = true then some (.tup (a ++ b), m) else none
  | _, _ => none
theorem RVs.nil_iff {ρ : Lay} {H : Hp} {xs : List Vl} {vs : List V} (r : RVs K ρ H xs vs) : xs = [] ↔ vs = [] := by
  have := r.length
  constructor
  · intro h
    subst h
    exact List.length_eq_zero_iff.mp this.symm
  · intro h
    subst h
    exact List.length_eq_zero_iff.mp this
theorem sf_addT : SF2 K addT (rCatT K) := fun ρ m H x y v u z m' Q M a b e k => by
  unfold addT at e
  split at e
  · rename_i xs ys
    split at e
    · rename_i c
      cases e
      simp only [Bool.and_eq_true, Bool.not_eq_true', decide_eq_true_eq, List.isEmpty_eq_false_iff] at c
      obtain ⟨p, vs, rfl, h1, h2⟩ := a
      obtain ⟨q, ws, rfl, h3, h4⟩ := b
      refine ⟨p, q, vs, ws, rfl, rfl, h1.sq, h3.sq, fun hv => c.1 (h2.nil_iff.mpr hv), by rw [← h2.length, ← h4.length]; exact c.2, fun hw => ?_, fun hw n hn => k _ _ _ (M.laid hn) (ext_new hn) (new_tup M hn (h2.append h4))⟩
      have hy := h4.nil_iff.mpr hw
      subst hy
      refine k ρ H _ M .refl ⟨p, vs, rfl, h1, ?_⟩
      rw [List.append_nil]
      exact h2
    · cases e
  · cases e
def mulL : F2 := fun x y m => match lsD m x, y with
  | some a, .int j => if (decide (-(2 ^ 63) ≤ j) && (decide (j < 2 ^ 63) && decide (a.length * j.toNat ≤ sizeLine))) = true then some (.lst (List.replicate j.toNat a).flatten, m) else none
  | _, _ => none
theorem RVs.rep {ρ : Lay} {H : Hp} {xs : List Vl} {vs : List V} (h : RVs K ρ H xs vs) : ∀ k : Nat, RVs K ρ H (List.replicate k xs).flatten (List.replicate k vs).flatten
  | 0 => rfl
  | k + 1 => by
    rw [List.replicate_succ, List.replicate_succ, List.flatten_cons, List.flatten_cons]
    exact h.append (RVs.rep h k)
theorem sf_mulL : SF2 K mulL rRep := fun ρ m H x y v u z m' Q M a b e k => by
  unfold mulL at e
  split at e
  · rename_i xs j hx
    split at e
    · rename_i c
      cases e
      simp only [Bool.and_eq_true, decide_eq_true_eq] at c
      obtain ⟨p, vs, rfl, h1, h2⟩ := lsD_ok M a hx
      exact ⟨p, j, vs, rfl, b, h1, c.1, c.2.1, by rw [← h2.length]; exact c.2.2, fun n hn => k _ _ _ (rm_frz M hn) (ext_frz M hn) (new_lst M hn (h2.rep _))⟩
    · cases e
  · cases e
/-! data -/
mutual
def toD : Vl → Option PyData
  | .non => some .none
  | .bl b => some (.bool b)
  | .int i => some (.int i)
  | .str x => some (.str x)
  | .tup xs => (match toDs xs with
    | some ds => some (.tuple ds)
    | none => none)
  | .lst xs => (match toDs xs with
    | some ds => some (.list ds)
    | none => none)
  | .frl xs => (match toDs xs with
    | some ds => some (.list ds)
    | none => none)
  | _ => none
def toDs : List Vl → Option (List PyData)
  | [] => some []
  | x :: xs => (match toD x with
    | some d => (match toDs xs with
      | some ds => some (d :: ds)
      | none => none)
    | none => none)
end
mutual
theorem toD_ok {ρ : Lay} {H : Hp} : ∀ {x : Vl} {v : V} {d : PyData}, RV K ρ H x v → toD x = some d → Dp K H v d
  | .non, _, _, h, e => by
    cases e
    rw [show _ = V.non from h]
    exact .non
  | .bl b, _, _, h, e => by
    cases e
    rw [show _ = V.bl b from h]
    exact .bl b
  | .int b, _, _, h, e => by
    cases e
    rw [show _ = V.int b from h]
    exact .int b
  | .str b, _, _, h, e => by
    cases e
    rw [show _ = V.str b from h]
    exact .str b
  | .tup xs, _, _, ⟨a, vs, h1, h2, h3⟩, e => by
    subst h1
    unfold toD at e
    split at e
    · rename_i ds hd
      cases e
      exact .tup h2.sq (toDs_ok h3 hd)
    · cases e
  | .lst xs, _, _, ⟨a, vs, h1, _, h2, h3⟩, e => by
    subst h1
    unfold toD at e
    split at e
    · rename_i ds hd
      cases e
      exact .lst (SqL.of h2) (toDs_ok h3 hd)
    · cases e
  | .frl xs, _, _, ⟨a, vs, h1, h2, h3⟩, e => by
    subst h1
    unfold toD at e
    split at e
    · rename_i ds hd
      cases e
      exact .lst h2.sq (toDs_ok h3 hd)
    · cases e
  | .ty _, _, _, _, e => by cases e
  | .glo _, _, _, _, e => by cases e
  | .dic _, _, _, _, e => by cases e
  | .dit _, _, _, _, e => by cases e
  | .ins _ _, _, _, _, e => by cases e
  | .obj _, _, _, _, e => by cases e
  | .err _ _, _, _, _, e => by cases e
theorem toDs_ok {ρ : Lay} {H : Hp} : ∀ {xs : List Vl} {vs : List V} {ds : List PyData}, RVs K ρ H xs vs → toDs xs = some ds → DpAll K H vs ds
  | [], _, _, h, e => by
    cases e
    rw [show _ = [] from h]
    exact .nil
  | x :: xs, _, _, ⟨v, r, h1, h2, h3⟩, e => by
    subst h1
    unfold toDs at e
    split at e
    · rename_i d hd
      split at e
      · rename_i ds hds
        cases e
        exact .cons (toD_ok h2 hd) (toDs_ok h3 hds)
      · cases e
    · cases e
end
def toDm (m : Mem) : Vl → Option PyData
  | .obj n => (match m[n]? with
    | some (.lst xs) => (match toDs xs with
      | some ds => some (.list ds)
      | none => none)
    | _ => none)
  | x => toD x
theorem toDm_ok {ρ : Lay} {m : Mem} {H : Hp} {x : Vl} {v : V} {d : PyData} (M : RM K ρ m H) (h : RV K ρ H x v) (e : toDm m x = some d) : Dp K H v d := by
  unfold toDm at e
  split at e
  · rename_i n
    split at e
    · rename_i xs hx
      split at e
      · rename_i ds hd
        cases e
        obtain ⟨p, rfl, hp⟩ := h
        obtain ⟨vs, h1, h2⟩ := M.at_ _ _ _ hx hp
        exact .lst (SqL.of h1) (toDs_ok h2 hd)
      · cases e
    · cases e
  · exact toD_ok h e
def datF (g : PyData → PyData → Bool) : F2 := fun x y m => match toDm m x, toDm m y with
  | some d, some e => if (SeqAt.shaped d && SeqAt.shaped e) = true then some (.bl (g d e), m) else none
  | _, _ => none
def eqW : F2 := datF PyData.eqv
def neW : F2 := datF fun d e => !PyData.eqv d e
theorem sf_eqW : SF2 K eqW (rEqD K) := fun ρ m H x y v u z m' Q M a b e k => by
  unfold eqW datF at e
  split at e
  · rename_i d d' hd hd'
    split at e
    · rename_i c
      cases e
      rw [Bool.and_eq_true] at c
      exact ⟨d, d', toDm_ok M a hd, toDm_ok M b hd', c.1, c.2, k ρ H _ M .refl rfl⟩
    · cases e
  · cases e
theorem sf_neW : SF2 K neW (rNeD K) := fun ρ m H x y v u z m' Q M a b e k => by
  unfold neW datF at e
  split at e
  · rename_i d d' hd hd'
    split at e
    · rename_i c
      cases e
      rw [Bool.and_eq_true] at c
      exact ⟨d, d', toDm_ok M a hd, toDm_ok M b hd', c.1, c.2, k ρ H _ M .refl rfl⟩
    · cases e
  · cases e
/-! in -/
def flatL : Vl → Option V
  | .non => some .non
  | .bl b => some (.bl b)
  | .int i => some (.int i)
  | .str x => some (.str x)
  | _ => none
theorem flatL_ok {ρ : Lay} {H : Hp} {x : Vl} {v w : V} (a : RV K ρ H x v) (h : flatL x = some w) : v = w ∧ flatV w = true := by
  cases x <;> first | (cases h; exact ⟨a, rfl⟩) | cases h
/-- == of flat values -/
def eqS (g : Bool → Bool) : F2 := fun x y m => match flatL x, flatL y with
  | some u, some w => if scal u w = true then some (.bl (g (decide (u = w))), m) else none
  | _, _ => none
theorem sf_eqS : SF2 K (eqS id) rEq := fun ρ m H x y v u z m' Q M a b e k => by
  unfold eqS at e
  split at e
  · rename_i p q hp hq
    split at e
    · rename_i c
      cases e
      obtain ⟨rfl, _⟩ := flatL_ok a hp
      obtain ⟨rfl, _⟩ := flatL_ok b hq
      exact ⟨c, k ρ H _ M .refl rfl⟩
    · cases e
  · cases e
theorem sf_neS : SF2 K (eqS not) rNe := fun ρ m H x y v u z m' Q M a b e k => by
  unfold eqS at e
  split at e
  · rename_i p q hp hq
    split at e
    · rename_i c
      cases e
      obtain ⟨rfl, _⟩ := flatL_ok a hp
      obtain ⟨rfl, _⟩ := flatL_ok b hq
      exact ⟨c, k ρ H _ M .refl rfl⟩
    · cases e
  · cases e
def eqF : F2 := orF (eqS id) eqW
def neF : F2 := orF (eqS not) neW
theorem sf_eq : SF2 K eqF (fun x y H Q => rEq x y H Q ∨ rEqD K x y H Q) := sf_or sf_eqS sf_eqW
theorem sf_ne : SF2 K neF (fun x y H Q => rNe x y H Q ∨ rNeD K x y H Q) := sf_or sf_neS sf_neW
def flatLs : List Vl → Option (List V)
  | [] => some []
  | x :: xs => (match flatL x with
    | some v => (match flatLs xs with
      | some vs => some (v :: vs)
      | none => none)
    | none => none)
theorem flatLs_ok {ρ : Lay} {H : Hp} : ∀ {xs : List Vl} {vs ws : List V}, RVs K ρ H xs vs → flatLs xs = some ws → vs = ws ∧ ws.all flatV = true
  | [], _, _, h, e => by
    cases e
    exact ⟨h, rfl⟩
  | x :: xs, _, _, ⟨v, r, h1, h2, h3⟩, e => by
    unfold flatLs at e
    split at e
    · rename_i w hw
      split at e
      · rename_i ws hws
        cases e
        obtain ⟨e1, f1⟩ := flatL_ok h2 hw
        obtain ⟨e2, f2⟩ := flatLs_ok h3 hws
        subst h1 e1 e2
        exact ⟨rfl, by rw [List.all_cons, f1, f2] <;> rfl⟩
      · cases e
    · cases e
def inS (neg : Bool) : F2 := fun x y m => match seqD m y with
  | some ys => (match flatL x, flatLs ys with
    | some v, some vs => some (.bl (if neg then !inV v vs else inV v vs), m)
    | _, _ => none)
  | none => none
theorem sf_in {neg : Bool} : SF2 K (inS neg) (rIn K neg) := fun ρ m H x y v u z m' Q M a b e k => by
  unfold inS at e
  split at e
  · rename_i ys hy
    split at e
    · rename_i w ws hw hws
      cases e
      obtain ⟨p, vs, rfl, h1, h2⟩ := seqD_ok M b hy
      obtain ⟨e1, f1⟩ := flatL_ok a hw
      obtain ⟨e2, f2⟩ := flatLs_ok h2 hws
      subst e1 e2
      exact ⟨p, _, rfl, h1, f1, f2, k ρ H _ M .refl rfl⟩
    · cases e
  · cases e
def inT (neg : Bool) : F2 := fun x y m => match x, y with
  | .str i, .str j => some (.bl (if neg then !(!(Builtin.Str.occurrences j i 0 j.length 1).isEmpty) else !(Builtin.Str.occurrences j i 0 j.length 1).isEmpty), m)
  | _, _ => none
theorem sf_inT : SF2 K (inT false) (fun x y H Q => ∃ i j, x = .str i ∧ y = .str j ∧ Q (.bl (!(Builtin.Str.occurrences j i 0 j.length 1).isEmpty)) H) := fun ρ m H x y v u z m' Q M a b e k => by
  unfold inT at e
  split at e
  · rename_i i j
    cases e
    exact ⟨i, j, a, b, k ρ H _ M .refl rfl⟩
  · cases e
theorem sf_notInT : SF2 K (inT true) (fun x y H Q => ∃ i j, x = .str i ∧ y = .str j ∧ Q (.bl (!(!(Builtin.Str.occurrences j i 0 j.length 1).isEmpty))) H) := fun ρ m H x y v u z m' Q M a b e k => by
  unfold inT at e
  split at e
  · rename_i i j
    cases e
    exact ⟨i, j, a, b, k ρ H _ M .refl rfl⟩
  · cases e
def inDl (neg : Bool) : F2 := fun x y m => match toDm m x, toDm m y with
  | some d, some (.list ds) => if (SeqAt.shaped d && SeqAt.shaped (.list ds)) = true then some (.bl (if neg then !ds.any fun z => PyData.eqv z d else ds.any fun z => PyData.eqv z d), m) else none
  | _, _ => none
theorem sf_inD : SF2 K (inDl false) (rInD K) := fun ρ m H x y v u z m' Q M a b e k => by
  unfold inDl at e
  split at e
  · rename_i d ds hd hd'
    split at e
    · rename_i c
      cases e
      rw [Bool.and_eq_true] at c
      exact ⟨d, ds, toDm_ok M a hd, toDm_ok M b hd', c.1, c.2, k ρ H _ M .refl rfl⟩
    · cases e
  · cases e
theorem sf_notInD : SF2 K (inDl true) (rNotInD K) := fun ρ m H x y v u z m' Q M a b e k => by
  unfold inDl at e
  split at e
  · rename_i d ds hd hd'
    split at e
    · rename_i c
      cases e
      rw [Bool.and_eq_true] at c
      exact ⟨d, ds, toDm_ok M a hd, toDm_ok M b hd', c.1, c.2, k ρ H _ M .refl rfl⟩
    · cases e
  · cases e
/-! is -/
def isN (neg : Bool) : F2 := fun x y m => match y with
  | .non => (match x with
    | .non => some (.bl (!neg), m)
    | _ => some (.bl neg, m))
  | _ => none
theorem RV.notNon {ρ : Lay} {H : Hp} {x : Vl} {v : V} (a : RV K ρ H x v) (h : match x with | .non => False | _ => True) : decide (v = V.non) = false := by
  cases x with
  | non => exact h.elim
  | err _ _ => obtain ⟨_, _, _, rfl, _⟩ := a; rfl
  | bl b => rw [show v = _ from a]; rfl
  | int b => rw [show v = _ from a]; rfl
  | str b => rw [show v = _ from a]; rfl
  | ty b => rw [show v = _ from a]; rfl
  | glo b => rw [show v = _ from a]; rfl
  | tup b => obtain ⟨_, _, rfl, _⟩ := a; rfl
  | lst b => obtain ⟨_, _, rfl, _⟩ := a; rfl
  | frl b => obtain ⟨_, _, rfl, _⟩ := a; rfl
  | dic b => obtain ⟨_, _, rfl, _⟩ := a; rfl
  | dit b => obtain ⟨_, _, rfl, _⟩ := a; rfl
  | ins b c => obtain ⟨_, _, _, rfl, _⟩ := a; rfl
  | obj b => obtain ⟨_, rfl, _⟩ := a; rfl
theorem sf_isN : SF2 K (isN false) (fun x y H Q => y = .non ∧ Q (.bl (decide (x = .non))) H) := fun ρ m H x y v u z m' Q M a b e k => by
  unfold isN at e
  split at e
  · refine ⟨b, ?_⟩
    split at e
    · cases e
      rw [show v = V.non from a]
      exact k ρ H _ M .refl rfl
    · rename_i h1
      cases e
      rw [a.notNon (by cases x <;> first | trivial | exact h1 rfl)]
      exact k ρ H _ M .refl rfl
  · cases e
theorem sf_notN : SF2 K (isN true) (fun x y H Q => y = .non ∧ Q (.bl (!decide (x = .non))) H) := fun ρ m H x y v u z m' Q M a b e k => by
  unfold isN at e
  split at e
  · refine ⟨b, ?_⟩
    split at e
    · cases e
      rw [show v = V.non from a]
      exact k ρ H _ M .refl rfl
    · rename_i h1
      cases e
      rw [a.notNon (by cases x <;> first | trivial | exact h1 rfl)]
      exact k ρ H _ M .refl rfl
  · cases e
def isB (neg : Bool) : F2 := fun x y m => match x, y with
  | .bl a, .bl b => some (.bl (if neg then !decide (a = b) else decide (a = b)), m)
  | _, _ => none
theorem sf_isB : SF2 K (isB false) rIsB := fun ρ m H x y v u z m' Q M a b e k => by
  unfold isB at e
  split at e
  · cases e
    exact ⟨_, _, a, b, k ρ H _ M .refl rfl⟩
  · cases e
theorem sf_notB : SF2 K (isB true) rNotB := fun ρ m H x y v u z m' Q M a b e k => by
  unfold isB at e
  split at e
  · cases e
    exact ⟨_, _, a, b, k ρ H _ M .refl rfl⟩
  · cases e
end
end Z
namespace Z
open PySem PySem.Spec PyProof.Rows L2
section
variable {X : Cx} {e a b c : Expr} {pos : Pos} {da db dc : DE} {dt du : DT} {es rest : List Expr} {d : DA} {f : F2} {r : R2}
/-! ### comparisons -/
theorem se_cmp {op : CmpOp} (ho : OpR X (compareOp op) r) (hf : SF2 X.K f r) (ha : SE X a da) (hb : SE X b db) (hm : behindInMarks op b = false) : SE X (.Compare a [op] [b] pos) (d2 f da db) := ⟨fun W tk =>
  impPE (pe_cmpR ho (ha.run W tk) (hb.run W tk) hm) fun σ H Q ⟨ρ, env, m, z, m', s, e, p⟩ =>
    bindE s e p fun x m1 ρ1 H1 v s1 E1 r1 e1 p1 => bindE s1 e1 p1 fun y m2 ρ2 H2 u s2 E2 r2 e2 p2 => by
      obtain ⟨w, h1, rfl⟩ := okR_some e2
      exact hf ρ2 m2 H2 x y v u w m' Q s2.mem (r1.mono E2) r2 h1 fun ρ' H' u' M E r => p2 ρ' H' M E u' r⟩
/-- a value that is a bool -/
def asB : Vl → Option Bool
  | .bl b => some b
  | _ => none
def b2 (f : F2) (da db : DE) : DT := fun env m => bindR (da env m) fun x m => bindR (db env m) fun y m => match f x y m with
  | some (.bl k, m) => some (.ok k, m)
  | _ => none
theorem st_cmp {op : CmpOp} (ho : OpR X (compareOp op) r) (hf : SF2 X.K f r) (ha : SE X a da) (hb : SE X b db) (hm : behindInMarks op b = false) : ST X (.Compare a [op] [b] pos) (b2 f da db) := ⟨fun W tk =>
  impPT (pt_cmpR ho (ha.run W tk) (hb.run W tk) hm) fun σ H Q ⟨ρ, env, m, z, m', s, e, p⟩ =>
    bindE s e p fun x m1 ρ1 H1 v s1 E1 r1 e1 p1 => bindE s1 e1 p1 fun y m2 ρ2 H2 u s2 E2 r2 e2 p2 => by
      split at e2
      · rename_i k m3 h1
        cases e2
        exact hf ρ2 m2 H2 x y v u _ m' _ s2.mem (r1.mono E2) r2 h1 fun ρ' H' u' M E r => ⟨k, r, p2 ρ' H' M E k rfl⟩
      · cases e2⟩
/-! the operators by their kinds -/
def eqA : F2 := eqF
def addA : F2 := orF addI (orF addS (orF addL addT))
def mulA : F2 := orF mulI mulL
theorem se_add (ha : SE X a da) (hb : SE X b db) : SE X (.BinOp a .Add b pos) (d2 addA da db) := se_2 (OpR.or op_add (OpR.or op_add_str (OpR.or op_cat op_catT))) (sf_or sf_addI (sf_or sf_addS (sf_or sf_addL sf_addT))) ha hb
theorem se_sub (ha : SE X a da) (hb : SE X b db) : SE X (.BinOp a .Sub b pos) (d2 subI da db) := se_2 op_sub sf_subI ha hb
theorem se_mul (ha : SE X a da) (hb : SE X b db) : SE X (.BinOp a .Mult b pos) (d2 mulA da db) := se_2 (OpR.or op_mul op_rep) (sf_or sf_mulI sf_mulL) ha hb
theorem se_div (ha : SE X a da) (hb : SE X b db) : SE X (.BinOp a .FloorDiv b pos) (d2 divI da db) := se_2 op_fdiv sf_divI ha hb
theorem se_mod (ha : SE X a da) (hb : SE X b db) : SE X (.BinOp a .Mod b pos) (d2 modI da db) := se_2 op_mod sf_modI ha hb
theorem se_pow (ha : SE X a da) (hb : SE X b db) : SE X (.BinOp a .Pow b pos) (d2 powI da db) := se_2 op_pow sf_powI ha hb
def neg1 (da : DE) : DE := fun env m => bindR (da env m) fun x m => match x with
  | .int i => some (.ok (.int (-i)), m)
  | _ => none
theorem se_neg (ha : SE X a da) : SE X (.UnaryOp .USub a pos) (neg1 da) := ⟨fun W tk => impPE (pe_un un_neg (ha.run W tk)) fun σ H Q ⟨ρ, env, m, z, m', s, e, p⟩ => bindE s e p fun x m1 ρ1 H1 v s1 E1 r1 e1 p1 => by
    split at e1
    · rename_i i
      cases e1
      exact ⟨i, r1, p1 ρ1 H1 s1.mem .refl _ rfl⟩
    · cases e1⟩
theorem se_eq (hu : X.A.units + 64 < cLine) (ha : SE X a da) (hb : SE X b db) : SE X (.Compare a [.Eq] [b] pos) (d2 eqF da db) := se_cmp (OpR.or op_eq (op_eqD hu)) sf_eq ha hb (nomark _)
theorem se_ne (hu : X.A.units + 64 < cLine) (ha : SE X a da) (hb : SE X b db) : SE X (.Compare a [.NotEq] [b] pos) (d2 neF da db) := se_cmp (OpR.or op_ne (op_neD hu)) sf_ne ha hb (nomark _)
theorem st_eq (hu : X.A.units + 64 < cLine) (ha : SE X a da) (hb : SE X b db) : ST X (.Compare a [.Eq] [b] pos) (b2 eqF da db) := st_cmp (OpR.or op_eq (op_eqD hu)) sf_eq ha hb (nomark _)
theorem st_ne (hu : X.A.units + 64 < cLine) (ha : SE X a da) (hb : SE X b db) : ST X (.Compare a [.NotEq] [b] pos) (b2 neF da db) := st_cmp (OpR.or op_ne (op_neD hu)) sf_ne ha hb (nomark _)
theorem se_lt (ha : SE X a da) (hb : SE X b db) : SE X (.Compare a [.Lt] [b] pos) (d2 ltI da db) := se_cmp op_lt sf_ltI ha hb (nomark _)
theorem se_le (ha : SE X a da) (hb : SE X b db) : SE X (.Compare a [.LtE] [b] pos) (d2 leI da db) := se_cmp op_le sf_leI ha hb (nomark _)
theorem se_gt (ha : SE X a da) (hb : SE X b db) : SE X (.Compare a [.Gt] [b] pos) (d2 gtI da db) := se_cmp op_gt sf_gtI ha hb (nomark _)
theorem se_ge (ha : SE X a da) (hb : SE X b db) : SE X (.Compare a [.GtE] [b] pos) (d2 geI da db) := se_cmp op_ge sf_geI ha hb (nomark _)
theorem st_lt (ha : SE X a da) (hb : SE X b db) : ST X (.Compare a [.Lt] [b] pos) (b2 ltI da db) := st_cmp op_lt sf_ltI ha hb (nomark _)
theorem st_le (ha : SE X a da) (hb : SE X b db) : ST X (.Compare a [.LtE] [b] pos) (b2 leI da db) := st_cmp op_le sf_leI ha hb (nomark _)
theorem st_gt (ha : SE X a da) (hb : SE X b db) : ST X (.Compare a [.Gt] [b] pos) (b2 gtI da db) := st_cmp op_gt sf_gtI ha hb (nomark _)
theorem st_ge (ha : SE X a da) (hb : SE X b db) : ST X (.Compare a [.GtE] [b] pos) (b2 geI da db) := st_cmp op_ge sf_geI ha hb (nomark _)
def isA (neg : Bool) : F2 := orF (isN neg) (isB neg)
theorem se_is (ha : SE X a da) (hb : SE X b db) : SE X (.Compare a [.Is] [b] pos) (d2 (isA false) da db) := se_cmp (OpR.or op_isN op_isBl) (sf_or sf_isN sf_isB) ha hb (nomark _)
theorem se_isnot (ha : SE X a da) (hb : SE X b db) : SE X (.Compare a [.IsNot] [b] pos) (d2 (isA true) da db) := se_cmp (OpR.or op_notN op_notBl) (sf_or sf_notN sf_notB) ha hb (nomark _)
theorem st_is (ha : SE X a da) (hb : SE X b db) : ST X (.Compare a [.Is] [b] pos) (b2 (isA false) da db) := st_cmp (OpR.or op_isN op_isBl) (sf_or sf_isN sf_isB) ha hb (nomark _)
theorem st_isnot (ha : SE X a da) (hb : SE X b db) : ST X (.Compare a [.IsNot] [b] pos) (b2 (isA true) da db) := st_cmp (OpR.or op_notN op_notBl) (sf_or sf_notN sf_notB) ha hb (nomark _)
def inA (neg : Bool) : F2 := orF (inS neg) (orF (inT neg) (inDl neg))
theorem se_in (hu : X.A.units + 65 < cLine) (ha : SE X a da) (hb : SE X b db) (hm : behindInMarks .In b = false := by rfl) : SE X (.Compare a [.In] [b] pos) (d2 (inA false) da db) := se_cmp (OpR.or op_in_seq (OpR.or op_in_str (op_inD hu))) (sf_or sf_in (sf_or sf_inT sf_inD)) ha hb hm
theorem se_notin (hu : X.A.units + 65 < cLine) (ha : SE X a da) (hb : SE X b db) (hm : behindInMarks .NotIn b = false := by rfl) : SE X (.Compare a [.NotIn] [b] pos) (d2 (inA true) da db) := se_cmp (OpR.or op_notIn_seq (OpR.or op_notIn_str (op_notInD hu))) (sf_or sf_in (sf_or sf_notInT sf_notInD)) ha hb hm
theorem st_in (hu : X.A.units + 65 < cLine) (ha : SE X a da) (hb : SE X b db) (hm : behindInMarks .In b = false := by rfl) : ST X (.Compare a [.In] [b] pos) (b2 (inA false) da db) := st_cmp (OpR.or op_in_seq (OpR.or op_in_str (op_inD hu))) (sf_or sf_in (sf_or sf_inT sf_inD)) ha hb hm
theorem st_notin (hu : X.A.units + 65 < cLine) (ha : SE X a da) (hb : SE X b db) (hm : behindInMarks .NotIn b = false := by rfl) : ST X (.Compare a [.NotIn] [b] pos) (b2 (inA true) da db) := st_cmp (OpR.or op_notIn_seq (OpR.or op_notIn_str (op_notInD hu))) (sf_or sf_in (sf_or sf_notInT sf_notInD)) ha hb hm
/-! ### chains, tests -/
def dChain (f g : F2) (da db dc : DE) : DE := fun env m => bindR (da env m) fun x m => bindR (db env m) fun y m => match f x y m with
  | some (.bl true, m) => bindR (dc env m) fun z m => okR (g y z m)
  | some (.bl false, m) => some (.ok (.bl false), m)
  | _ => none
theorem se_chain {op op' : CmpOp} {g : F2} {r' : R2} (ho : OpR X (compareOp op) r) (ho' : OpR X (compareOp op') r') (hf : SF2 X.K f r) (hg : SF2 X.K g r') (ha : SE X a da) (hb : SE X b db) (hc : SE X c dc)
    (hm : lastMarks [op, op'] [b, c] = false := by with_unfolding_all rfl) : SE X (.Compare a [op, op'] [b, c] pos) (dChain f g da db dc) := ⟨fun W tk =>
  impPE (pe_chain ho ho' (ha.run W tk) (hb.run W tk) (hc.run W tk) hm) fun σ H Q ⟨ρ, env, m, z, m', s, e, p⟩ =>
    bindE s e p fun x m1 ρ1 H1 v s1 E1 r1 e1 p1 => bindE s1 e1 p1 fun y m2 ρ2 H2 u s2 E2 r2 e2 p2 => by
      split at e2
      · rename_i m3 h1
        refine hf ρ2 m2 H2 x y v u _ m3 _ s2.mem (r1.mono E2) r2 h1 fun ρ' H' u' M E r => ⟨true, r, ?_⟩
        rw [if_pos rfl]
        exact bindE (s2.to E M) e2 (p2.mono E) fun z m4 ρ4 H4 v4 s4 E4 r4 e4 p4 => by
          obtain ⟨w, h5, rfl⟩ := okR_some e4
          exact hg ρ4 m4 H4 y z u v4 w m' Q s4.mem (r2.mono (E.trans E4)) r4 h5 fun ρ' H' u' M E r => p4 ρ' H' M E u' r
      · rename_i m3 h1
        cases e2
        refine hf ρ2 m2 H2 x y v u _ _ _ s2.mem (r1.mono E2) r2 h1 fun ρ' H' u' M E r => ⟨false, r, ?_⟩
        rw [if_neg (by decide)]
        exact p2 ρ' H' M E _ rfl
      · cases e2⟩
/-- a value that is a bool, as a test -/
def tB' (da : DE) : DT := fun env m => bindR (da env m) fun x m => match x with
  | .bl k => some (.ok k, m)
  | _ => none
theorem st_val (h : SE X e da) (he : ∀ whole, isTrue e X.env whole = (do let v ← whole; standAt e.pos; holding [v] (truthy v)) := by intro _; rfl) : ST X e (tB' da) := ⟨fun W tk =>
  impPT (pt_val (h.run W tk) he) fun σ H Q ⟨ρ, env, m, z, m', s, e, p⟩ => bindE s e p fun x m1 ρ1 H1 v s1 E1 r1 e1 p1 => by
    split at e1
    · rename_i k
      cases e1
      exact ⟨k, r1, p1 ρ1 H1 s1.mem .refl k rfl⟩
    · cases e1⟩
def truD (m : Mem) : Vl → Option Bool
  | .non => some false
  | .bl b => some b
  | .int i => some (i != 0)
  | .str x => if x.length ≤ sizeLine then some ((x.length : Int) != 0) else none
  | .tup xs => some (!xs.isEmpty)
  | .lst xs => some (!xs.isEmpty)
  | .frl xs => some (!xs.isEmpty)
  | .obj n => (match m[n]? with
    | some (.lst xs) => some (!xs.isEmpty)
    | some (.dic xs) => some (!xs.isEmpty)
    | _ => none)
  | .dic xs => some (!xs.isEmpty)
  | _ => none
theorem RVs.emp {K : PySem.W.Frag} {ρ : Lay} {H : Hp} {xs : List Vl} {vs : List V} (r : RVs K ρ H xs vs) : vs.isEmpty = xs.isEmpty := by
  have := r.length
  cases xs <;> cases vs <;> first | rfl | simp at this
theorem RKs.emp {K : PySem.W.Frag} {ρ : Lay} {H : Hp} {xs : List (Key × Vl)} {vs : List (Key × V)} (r : RKs K ρ H xs vs) : vs.isEmpty = xs.isEmpty := by
  cases xs with
  | nil =>
    rw [show vs = [] from r]
    rfl
  | cons x xs =>
    obtain ⟨k, y⟩ := x
    obtain ⟨v, s, rfl, _⟩ := r
    rfl
theorem truD_ok {K : PySem.W.Frag} {ρ : Lay} {m : Mem} {H : Hp} {x : Vl} {v : V} {k : Bool} (M : RM K ρ m H) (a : RV K ρ H x v) (h : truD m x = some k) : TruV K v H k := by
  cases x with
  | non =>
    cases h
    rw [show v = _ from a]
    rfl
  | bl b =>
    cases h
    rw [show v = _ from a]
    rfl
  | int b =>
    cases h
    rw [show v = _ from a]
    rfl
  | str b =>
    rw [show v = _ from a]
    have h' : (if b.length ≤ sizeLine then some ((b.length : Int) != 0) else none) = some k := h
    split at h'
    · rename_i c
      cases h'
      exact ⟨c, rfl⟩
    · cases h'
  | tup b =>
    cases h
    obtain ⟨p, vs, rfl, h1, h2⟩ := a
    exact .inr (.inl ⟨vs, h1.sq, by rw [h2.emp]⟩)
  | lst b =>
    cases h
    obtain ⟨p, vs, rfl, _, h1, h2⟩ := a
    exact .inl ⟨vs, SqL.of h1, by rw [h2.emp]⟩
  | frl b =>
    cases h
    obtain ⟨p, vs, rfl, h1, h2⟩ := a
    exact .inl ⟨vs, h1.sq, by rw [h2.emp]⟩
  | dic b =>
    cases h
    obtain ⟨p, vs, rfl, _, h1, h2⟩ := a
    exact .inr (.inr ⟨vs, h1, by rw [h2.emp]⟩)
  | obj n =>
    obtain ⟨p, rfl, hp⟩ := a
    unfold truD at h
    simp only at h
    split at h
    · rename_i xs hx
      cases h
      obtain ⟨vs, h1, h2⟩ := M.at_ _ _ _ hx hp
      exact .inl ⟨vs, SqL.of h1, by rw [h2.emp]⟩
    · rename_i xs hx
      cases h
      obtain ⟨vs, h1, h2⟩ := M.at_ _ _ _ hx hp
      exact .inr (.inr ⟨vs, h1, by rw [h2.emp]⟩)
    · cases h
  | _ => cases h
def tTr (da : DE) : DT := fun env m => bindR (da env m) fun x m => match truD m x with
  | some k => some (.ok k, m)
  | none => none
theorem st_tru (h : SE X e da) (he : ∀ whole, isTrue e X.env whole = (do let v ← whole; standAt e.pos; holding [v] (truthy v)) := by intro _; rfl) : ST X e (tTr da) := ⟨fun W tk =>
  impPT (pt_truth (h.run W tk) he) fun σ H Q ⟨ρ, env, m, z, m', s, e, p⟩ => bindE s e p fun x m1 ρ1 H1 v s1 E1 r1 e1 p1 => by
    split at e1
    · rename_i k hk
      cases e1
      exact ⟨k, truD_ok s1.mem r1 hk, p1 ρ1 H1 s1.mem .refl k rfl⟩
    · cases e1⟩
def tAnd2 (t u : DT) : DT := fun env m => bindR (t env m) fun b m => if b = true then u env m else some (.ok false, m)
def tOr2 (t u : DT) : DT := fun env m => bindR (t env m) fun b m => if b = true then some (.ok true, m) else u env m
def tNot1 (t : DT) : DT := fun env m => bindR (t env m) fun b m => some (.ok (!b), m)
theorem st_w {t : DT} (h : SW X e t) : ST X e t := ⟨fun W tk => PW.pt (h.run W tk)⟩
theorem sw_and1 (ha : ST X a dt) : SW X (.BoolOp .And [a] pos) dt := ⟨fun W tk => pw_and1 (ha.run W tk)⟩
theorem sw_or1 (ha : ST X a dt) : SW X (.BoolOp .Or [a] pos) dt := ⟨fun W tk => pw_or1 (ha.run W tk)⟩
theorem sw_and (ha : ST X a dt) (hb : SW X (.BoolOp .And (b :: rest) pos) du) : SW X (.BoolOp .And (a :: b :: rest) pos) (tAnd2 dt du) := ⟨fun W tk =>
  impPW (pw_and (ha.run W tk) (hb.run W tk)) fun σ H Q ⟨ρ, env, m, z, m', s, e, p⟩ => bindT s e p fun k m1 ρ1 H1 s1 E1 e1 p1 => by
    cases k with
    | true => exact ⟨ρ1, env, m1, z, m', s1, e1, p1⟩
    | false =>
      cases e1
      exact p1 ρ1 H1 s1.mem .refl false rfl⟩
theorem sw_or (ha : ST X a dt) (hb : SW X (.BoolOp .Or (b :: rest) pos) du) : SW X (.BoolOp .Or (a :: b :: rest) pos) (tOr2 dt du) := ⟨fun W tk =>
  impPW (pw_or (ha.run W tk) (hb.run W tk)) fun σ H Q ⟨ρ, env, m, z, m', s, e, p⟩ => bindT s e p fun k m1 ρ1 H1 s1 E1 e1 p1 => by
    cases k with
    | false => exact ⟨ρ1, env, m1, z, m', s1, e1, p1⟩
    | true =>
      cases e1
      exact p1 ρ1 H1 s1.mem .refl true rfl⟩
theorem st_not (ha : ST X a dt) : ST X (.UnaryOp .Not a pos) (tNot1 dt) := ⟨fun W tk =>
  impPT (pt_not (ha.run W tk)) fun σ H Q ⟨ρ, env, m, z, m', s, e, p⟩ => bindT s e p fun k m1 ρ1 H1 s1 E1 e1 p1 => by
    cases e1
    exact p1 ρ1 H1 s1.mem .refl _ rfl⟩
/-! and, or, not as values, by truth -/
def dAndV (da db : DE) : DE := fun env m => bindR (da env m) fun x m => match truD m x with
  | some true => db env m
  | some false => some (.ok x, m)
  | none => none
def dOrV (da db : DE) : DE := fun env m => bindR (da env m) fun x m => match truD m x with
  | some true => some (.ok x, m)
  | some false => db env m
  | none => none
theorem se_one {op : BoolOp} (h : SE X a da) : SE X (.BoolOp op [a] pos) da := ⟨fun W tk => pe_one (h.run W tk)⟩
theorem se_and (ha : SE X a da) (hb : SE X (.BoolOp .And (b :: rest) pos) db) : SE X (.BoolOp .And (a :: b :: rest) pos) (dAndV da db) := ⟨fun W tk =>
  impPE (pe_andT (ha.run W tk) (hb.run W tk)) fun σ H Q ⟨ρ, env, m, z, m', s, e, p⟩ => bindE s e p fun x m1 ρ1 H1 v s1 E1 r1 e1 p1 => by
    split at e1
    · rename_i hk
      refine ⟨true, truD_ok s1.mem r1 hk, ?_⟩
      rw [if_pos rfl]
      exact ⟨ρ1, env, m1, z, m', s1, e1, p1⟩
    · rename_i hk
      cases e1
      refine ⟨false, truD_ok s1.mem r1 hk, ?_⟩
      rw [if_neg (by decide)]
      exact p1 ρ1 H1 s1.mem .refl v r1
    · cases e1⟩
theorem se_or (ha : SE X a da) (hb : SE X (.BoolOp .Or (b :: rest) pos) db) : SE X (.BoolOp .Or (a :: b :: rest) pos) (dOrV da db) := ⟨fun W tk =>
  impPE (pe_orT (ha.run W tk) (hb.run W tk)) fun σ H Q ⟨ρ, env, m, z, m', s, e, p⟩ => bindE s e p fun x m1 ρ1 H1 v s1 E1 r1 e1 p1 => by
    split at e1
    · rename_i hk
      cases e1
      refine ⟨true, truD_ok s1.mem r1 hk, ?_⟩
      rw [if_pos rfl]
      exact p1 ρ1 H1 s1.mem .refl v r1
    · rename_i hk
      refine ⟨false, truD_ok s1.mem r1 hk, ?_⟩
      rw [if_neg (by decide)]
      exact ⟨ρ1, env, m1, z, m', s1, e1, p1⟩
    · cases e1⟩
def dNotV (da : DE) : DE := fun env m => bindR (da env m) fun x m => match truD m x with
  | some k => some (.ok (.bl (!k)), m)
  | none => none
theorem se_not (ha : SE X a da) : SE X (.UnaryOp .Not a pos) (dNotV da) := ⟨fun W tk =>
  impPE (pe_notT (ha.run W tk)) fun σ H Q ⟨ρ, env, m, z, m', s, e, p⟩ => bindE s e p fun x m1 ρ1 H1 v s1 E1 r1 e1 p1 => by
    split at e1
    · rename_i k hk
      cases e1
      exact ⟨k, truD_ok s1.mem r1 hk, p1 ρ1 H1 s1.mem .refl _ rfl⟩
    · cases e1⟩
def dIf (t : DT) (da db : DE) : DE := fun env m => bindR (t env m) fun b m => if b = true then da env m else db env m
theorem se_if {t : Expr} (hc : ST X t dt) (ha : SE X a da) (hb : SE X b db) : SE X (.IfExp t a b pos) (dIf dt da db) := ⟨fun W tk =>
  impPE (pe_ifExp (hc.run W tk) (ha.run W tk) (hb.run W tk)) fun σ H Q ⟨ρ, env, m, z, m', s, e, p⟩ => bindT s e p fun k m1 ρ1 H1 s1 E1 e1 p1 => by
    cases k with
    | true => exact ⟨ρ1, env, m1, z, m', s1, e1, p1⟩
    | false => exact ⟨ρ1, env, m1, z, m', s1, e1, p1⟩⟩
/-! ### subscripts, slices -/
def ixT : F2 := fun x y m => match seqD m x, y with
  | some xs, .int i => (match atI xs i with
    | some v => some (v, m)
    | none => none)
  | _, _ => none
theorem RVs.atI {K : PySem.W.Frag} {ρ : Lay} {H : Hp} {xs : List Vl} {vs : List V} {i : Int} {x : Vl} (r : RVs K ρ H xs vs) (h : L2.atI xs i = some x) : ∃ v, L2.atI vs i = some v ∧ RV K ρ H x v := by
  unfold L2.atI at h ⊢
  rw [← r.length]
  cases q : ixN xs.length i with
  | none =>
    rw [q] at h
    cases h
  | some j =>
    rw [q] at h
    exact r.get h
def rIxZ (K : PySem.W.Frag) : R2 := fun x y H Q => rIxL K x y H Q ∨ rIxT K x y H Q
theorem sf_ix {K : PySem.W.Frag} : SF2 K ixT (rIxZ K) := fun ρ m H x y v u z m' Q M a b e k => by
  unfold ixT at e
  split at e
  · rename_i xs i hx
    split at e
    · rename_i w hw
      cases e
      obtain ⟨p, vs, rfl, h1, h2⟩ := seqD_ok M a hx
      obtain ⟨w', h3, h4⟩ := h2.atI hw
      rcases h1 with h1 | h1
      · exact .inl ⟨p, vs, i, w', rfl, b, h1, h3, k ρ H _ M .refl h4⟩
      · exact .inr ⟨p, vs, i, w', rfl, b, h1, h3, k ρ H _ M .refl h4⟩
    · cases e
  · cases e
def ixS : F2 := fun x y m => match x, y with
  | .str z, .int i => if z.length ≤ sizeLine then (match atI z.cps.toList i with
    | some c => some (.str ⟨#[c]⟩, m)
    | none => none) else none
  | _, _ => none
theorem sf_ixS {K : PySem.W.Frag} : SF2 K ixS rIxS := fun ρ m H x y v u z m' Q M a b e k => by
  unfold ixS at e
  split at e
  · rename_i t i
    split at e
    · rename_i hl
      split at e
      · rename_i c hc
        cases e
        exact ⟨t, i, c, a, b, hl, hc, k ρ H _ M .refl rfl⟩
      · cases e
    · cases e
  · cases e
def ixA : F2 := orF ixT ixS
theorem se_ix (ha : SE X a da) (hb : SE X b db) (hs : PlainIx b := by intro _ _; rfl) : SE X (.Subscript a b pos) (d2 ixA da db) := ⟨fun W tk =>
  impPE (pe_ix (IxR.or (IxR.or ix_list ix_tup) ix_str) (ha.run W tk) (hb.run W tk) hs) fun σ H Q ⟨ρ, env, m, z, m', s, e, p⟩ =>
    bindE s e p fun x m1 ρ1 H1 v s1 E1 r1 e1 p1 => bindE s1 e1 p1 fun y m2 ρ2 H2 u s2 E2 r2 e2 p2 => by
      obtain ⟨w, h1, rfl⟩ := okR_some e2
      exact sf_or sf_ix sf_ixS ρ2 m2 H2 x y v u w m' Q s2.mem (r1.mono E2) r2 h1 fun ρ' H' u' M E r => p2 ρ' H' M E u' r⟩
/-- a slice's end -/
abbrev DO := Ev → Mem → Option (R (Option Int) × Mem)
def rdO (K : PySem.W.Frag) (W : WX) (d : DO) : TO := fun σ H Q => ∃ ρ env m r m', S K ρ env m σ H ∧ d env m = some (r, m') ∧ Po K ρ H (fun _ _ (b c : Option Int) => b = c) (fun c dd H' => W c dd σ H') Q r m'
structure SO (X : Cx) (e : Option Expr) (d : DO) : Prop where
  run : ∀ W, Takes X W → PO X e (rdO X.K W d)
theorem impPO {e : Option Expr} {t t' : TO} (h : PO X e t) (q : ∀ σ H Q, t' σ H Q → t σ H Q) : PO X e t' := ⟨fun pins s σ H Q I x => h.run pins s σ H Q I (q σ H Q x)⟩
theorem so_none : SO X none (fun _ m => some (.ok none, m)) := ⟨fun W tk => impPO po_none fun σ H Q ⟨ρ, env, m, z, m', s, e, p⟩ => by
  cases e
  exact p ρ H s.mem .refl none rfl⟩
def dPart (da : DE) : DO := fun env m => bindR (da env m) fun x m => match x with
  | .int i => some (.ok (some i), m)
  | _ => none
theorem so_some (ha : SE X a da) : SO X (some a) (dPart da) := ⟨fun W tk => impPO (po_some (ha.run W tk)) fun σ H Q ⟨ρ, env, m, z, m', s, e, p⟩ => bindE s e p fun x m1 ρ1 H1 v s1 E1 r1 e1 p1 => by
  split at e1
  · rename_i i
    cases e1
    exact ⟨i, r1, p1 ρ1 H1 s1.mem .refl (some i) rfl⟩
  · cases e1⟩
theorem bindO {β γ : Type} {K : PySem.W.Frag} {W : WX} {ρ : Lay} {env : Ev} {m m' : Mem} {σ : L2.St} {H : Hp} {d : DO} {f : Option Int → Mem → Option (R β × Mem)} {z : R β} {Q : Option Int → Hp → Prop} {Rel : Lay → Hp → β → γ → Prop} {Qf : γ → Hp → Prop}
    (s : S K ρ env m σ H) (e : bindR (d env m) f = some (z, m')) (p : Po K ρ H Rel (fun c dd H' => W c dd σ H') Qf z m')
    (k : ∀ x m1 ρ' H', S K ρ' env m1 σ H' → Ext ρ H ρ' H' → f x m1 = some (z, m') → Po K ρ' H' Rel (fun c dd H' => W c dd σ H') Qf z m' → Q x H') : rdO K W d σ H Q := by
  unfold bindR at e
  split at e
  · cases e
  · rename_i x m1 h
    refine ⟨ρ, env, m, _, _, s, h, fun ρ' H' M E v r => ?_⟩
    cases r
    exact k x m1 ρ' H' (s.to E M) E e (p.mono E)
  · rename_i c fs m1 h
    cases e
    exact ⟨ρ, env, m, _, _, s, h, fun ρ' H' M E dd r => p ρ' H' M E dd r⟩
def cutZ (xs : List Vl) (lo hi : Option Int) : List Vl := (xs.drop (HT.sIx xs.length 0 lo)).take (HT.sIx xs.length xs.length hi - HT.sIx xs.length 0 lo)
theorem RVs.drop {K : PySem.W.Frag} {ρ : Lay} {H : Hp} : ∀ {xs : List Vl} {vs : List V} (n : Nat), RVs K ρ H xs vs → RVs K ρ H (xs.drop n) (vs.drop n)
  | _, _, 0, h => h
  | [], _, n + 1, h => by
    rw [show _ = [] from h]
    rfl
  | _ :: xs, _, n + 1, ⟨v, r, h1, _, h3⟩ => by
    subst h1
    exact RVs.drop n h3
theorem RVs.take {K : PySem.W.Frag} {ρ : Lay} {H : Hp} : ∀ {xs : List Vl} {vs : List V} (n : Nat), RVs K ρ H xs vs → RVs K ρ H (xs.take n) (vs.take n)
  | _, _, 0, _ => rfl
  | [], _, n + 1, h => by
    rw [show _ = [] from h]
    rfl
  | _ :: xs, _, n + 1, ⟨v, r, h1, h2, h3⟩ => by
    subst h1
    exact ⟨v, _, rfl, h2, RVs.take n h3⟩
theorem RVs.cut {K : PySem.W.Frag} {ρ : Lay} {H : Hp} {xs : List Vl} {vs : List V} {lo hi : Option Int} (h : RVs K ρ H xs vs) : RVs K ρ H (cutZ xs lo hi) (cutV vs lo hi) := by
  unfold cutZ cutV
  rw [h.length]
  exact (h.drop _).take _
def slD (x : Vl) (lo hi : Option Int) (m : Mem) : Option (Vl × Mem) := match x with
  | .tup xs => if (decide (HT.sIx xs.length 0 lo = 0) && decide (HT.sIx xs.length xs.length hi = xs.length)) = true then none else some (.tup (cutZ xs lo hi), m)
  | .str z => if z.length ≤ sizeLine then some (.str (cutS z lo hi), m) else none
  | x => (match lisD m x with
    | some xs => some (.lst (cutZ xs lo hi), m)
    | none => none)
theorem sl_ok {K : PySem.W.Frag} {ρ : Lay} {m : Mem} {H : Hp} {x : Vl} {v : V} {lo hi : Option Int} {z : Vl} {m' : Mem} {Q : VK} (M : RM K ρ m H) (a : RV K ρ H x v) (e : slD x lo hi m = some (z, m'))
    (k : ∀ ρ' H' w, RM K ρ' m' H' → Ext ρ H ρ' H' → RV K ρ' H' z w → Q w H') : rSlL K v lo hi H Q ∨ rSlT K v lo hi H Q ∨ rSlS v lo hi H Q := by
  unfold slD at e
  split at e
  · rename_i xs
    split at e
    · cases e
    · rename_i c
      cases e
      obtain ⟨p, vs, rfl, h1, h2⟩ := a
      refine .inr (.inl ⟨p, vs, rfl, h1.sq, ?_, fun n hn => k ρ _ _ (M.laid hn) (ext_new hn) (new_tup M hn h2.cut)⟩)
      rw [← h2.length]
      simp only [Bool.and_eq_true, decide_eq_true_eq] at c
      exact c
  · rename_i t
    split at e
    · rename_i c
      cases e
      exact .inr (.inr ⟨t, a, c, k ρ H _ M .refl rfl⟩)
    · cases e
  · split at e
    · rename_i xs hx
      cases e
      obtain ⟨p, vs, rfl, h1, h2⟩ := lisD_ok M a hx
      exact .inl ⟨p, vs, rfl, h1, fun n hn => k _ _ _ (rm_frz M hn) (ext_frz M hn) (new_lst M hn h2.cut)⟩
    · cases e
def dSl (da : DE) (lo hi : DO) : DE := fun env m => bindR (da env m) fun x m => bindR (lo env m) fun l m => bindR (hi env m) fun h m => okR (slD x l h m)
theorem se_slice {lo hi : Option Expr} {p2 : Pos} {dl dh : DO} (ha : SE X a da) (hl : SO X lo dl) (hh : SO X hi dh) : SE X (.Subscript a (.Slice lo hi none p2) pos) (dSl da dl dh) := ⟨fun W tk =>
  impPE (pe_slice (SlR.or sl_list (SlR.or sl_tup sl_str)) (ha.run W tk) (hl.run W tk) (hh.run W tk)) fun σ H Q ⟨ρ, env, m, z, m', s, e, p⟩ =>
    bindE s e p fun x m1 ρ1 H1 v s1 E1 r1 e1 p1 => bindO s1 e1 p1 fun l m2 ρ2 H2 s2 E2 e2 p2 => bindO s2 e2 p2 fun h m3 ρ3 H3 s3 E3 e3 p3 => by
      obtain ⟨w, h1, rfl⟩ := okR_some e3
      exact sl_ok s3.mem (r1.mono (E2.trans E3)) h1 fun ρ' H' u' M E r => p3 ρ' H' M E u' r⟩
end
end Z
namespace Z
open PySem PySem.Spec PyProof.Rows L2
/-! ### values that lean on the first k cells alone -/
mutual
def clo (k : Nat) : Vl → Bool
  | .tup xs => cloL k xs
  | .lst xs => cloL k xs
  | .frl xs => cloL k xs
  | .dic kvs => cloK k kvs
  | .dit kvs => cloT k kvs
  | .ins _ fs => cloF k fs
  | .obj n => decide (n < k)
  | .non => true
  | .bl _ => true
  | .int _ => true
  | .str _ => true
  | .ty _ => true
  | .glo _ => true
  | .err _ fs => cloF k fs
def cloL (k : Nat) : List Vl → Bool
  | [] => true
  | x :: xs => clo k x && cloL k xs
def cloK (k : Nat) : List (Key × Vl) → Bool
  | [] => true
  | (_, x) :: xs => clo k x && cloK k xs
def cloT (k : Nat) : List (List Key × Vl) → Bool
  | [] => true
  | (_, x) :: xs => clo k x && cloT k xs
def cloF (k : Nat) : List (Str × Vl) → Bool
  | [] => true
  | (_, x) :: xs => clo k x && cloF k xs
end
theorem and2 {a b : Bool} (h : (a && b) = true) : a = true ∧ b = true := Bool.and_eq_true_iff.mp h
section
variable {K : PySem.W.Frag} {ρ ρ1 : Lay} {H H1 : Hp}
mutual
theorem RV.clo {k : Nat} (hk : ρ.c.length ≤ k) : ∀ (x : Vl) {v : V}, RV K ρ H x v → clo k x = true
  | .non, _, _ => rfl
  | .bl _, _, _ => rfl
  | .int _, _, _ => rfl
  | .str _, _, _ => rfl
  | .ty _, _, _ => rfl
  | .glo _, _, _ => rfl
  | .tup xs, _, ⟨_, _, _, _, h⟩ => RVs.clo hk xs h
  | .lst xs, _, ⟨_, _, _, _, _, h⟩ => RVs.clo hk xs h
  | .frl xs, _, ⟨_, _, _, _, h⟩ => RVs.clo hk xs h
  | .dic xs, _, ⟨_, _, _, _, _, h⟩ => RKs.clo hk xs h
  | .dit xs, _, ⟨_, _, _, _, _, h⟩ => RTs.clo hk xs h
  | .ins c fs, _, ⟨_, _, _, _, _, _, h⟩ => RFs.clo hk fs h
  | .obj n, _, ⟨a, _, h2⟩ => decide_eq_true (Nat.lt_of_lt_of_le (List.getElem?_eq_some_iff.mp h2).1 hk)
  | .err _ fs, _, ⟨_, _, _, _, _, _, _, h⟩ => RFs.clo hk fs h
theorem RVs.clo {k : Nat} (hk : ρ.c.length ≤ k) : ∀ (xs : List Vl) {vs : List V}, RVs K ρ H xs vs → cloL k xs = true
  | [], _, _ => rfl
  | x :: xs, _, ⟨_, _, _, h2, h3⟩ => Bool.and_eq_true_iff.mpr ⟨RV.clo hk x h2, RVs.clo hk xs h3⟩
theorem RKs.clo {k : Nat} (hk : ρ.c.length ≤ k) : ∀ (xs : List (Key × Vl)) {vs : List (Key × V)}, RKs K ρ H xs vs → cloK k xs = true
  | [], _, _ => rfl
  | (_, x) :: xs, _, ⟨_, _, _, h2, h3⟩ => Bool.and_eq_true_iff.mpr ⟨RV.clo hk x h2, RKs.clo hk xs h3⟩
theorem RTs.clo {k : Nat} (hk : ρ.c.length ≤ k) : ∀ (xs : List (List Key × Vl)) {vs : List (List Key × V)}, RTs K ρ H xs vs → cloT k xs = true
  | [], _, _ => rfl
  | (_, x) :: xs, _, ⟨_, _, _, h2, h3⟩ => Bool.and_eq_true_iff.mpr ⟨RV.clo hk x h2, RTs.clo hk xs h3⟩
theorem RFs.clo {k : Nat} (hk : ρ.c.length ≤ k) : ∀ (xs : List (Str × Vl)) {vs : List (Str × V)}, RFs K ρ H xs vs → cloF k xs = true
  | [], _, _ => rfl
  | (_, x) :: xs, _, ⟨_, _, _, h2, h3⟩ => Bool.and_eq_true_iff.mpr ⟨RV.clo hk x h2, RFs.clo hk xs h3⟩
end
/-- the layout of the first k cells; the others are values from now on -/
def Lay.cut (ρ : Lay) (k : Nat) : Lay := ⟨ρ.c.take k, ρ.z ++ ρ.c.drop k⟩
theorem cut_out {k : Nat} {a : Addr} (n : a ∉ ρ.c) : a ∉ (ρ.cut k).c := fun q => n (List.mem_of_mem_take q)
theorem cut_z {k : Nat} {a : Addr} (n : a ∈ ρ.z ∧ a ∉ ρ.c) : a ∈ (ρ.cut k).z ∧ a ∉ (ρ.cut k).c := ⟨List.mem_append_left _ n.1, cut_out n.2⟩
mutual
theorem RV.cut {k : Nat} : ∀ (x : Vl) {v : V}, RV K ρ H x v → Z.clo k x = true → RV K (ρ.cut k) H x v
  | .non, _, h, _ => h
  | .bl _, _, h, _ => h
  | .int _, _, h, _ => h
  | .str _, _, h, _ => h
  | .ty _, _, h, _ => h
  | .glo _, _, h, _ => h
  | .tup xs, _, ⟨a, vs, h1, h2, h3⟩, c => ⟨a, vs, h1, h2.elim (fun h => .inl ⟨cut_out h.1, h.2⟩) .inr, RVs.cut' xs h3 c⟩
  | .lst xs, _, ⟨a, vs, h1, n, h2, h3⟩, c => ⟨a, vs, h1, cut_z n, h2, RVs.cut' xs h3 c⟩
  | .frl xs, _, ⟨a, vs, h1, h2, h3⟩, c => ⟨a, vs, h1, h2.elim (fun h => .inl ⟨cut_out h.1, h.2⟩) .inr, RVs.cut' xs h3 c⟩
  | .dic xs, _, ⟨a, vs, h1, n, h2, h3⟩, c => ⟨a, vs, h1, cut_z n, h2, RKs.cut xs h3 c⟩
  | .dit xs, _, ⟨a, vs, h1, n, h2, h3⟩, c => ⟨a, vs, h1, cut_z n, h2, RTs.cut xs h3 c⟩
  | .ins _ fs, _, ⟨a, dx, gs, h1, n, h2, h3⟩, c => ⟨a, dx, gs, h1, cut_z n, h2, RFs.cut fs h3 c⟩
  | .obj n, _, ⟨a, h1, h2⟩, c => ⟨a, h1, by
      show (ρ.c.take k)[n]? = some a
      rw [List.getElem?_take_of_lt (of_decide_eq_true c)]
      exact h2⟩
  | .err _ fs, _, ⟨a, d, gs, h1, n, h2, h3, h4⟩, c => ⟨a, d, gs, h1, cut_out n, h2, h3.elim (fun ⟨dd, q1, q2, q3⟩ => .inl ⟨dd, q1, cut_out q2, q3⟩) .inr, RFs.cut fs h4 c⟩
theorem RVs.cut' {k : Nat} : ∀ (xs : List Vl) {vs : List V}, RVs K ρ H xs vs → cloL k xs = true → RVs K (ρ.cut k) H xs vs
  | [], _, h, _ => h
  | x :: xs, _, ⟨v, r, h1, h2, h3⟩, c => ⟨v, r, h1, RV.cut x h2 (and2 c).1, RVs.cut' xs h3 (and2 c).2⟩
theorem RKs.cut {k : Nat} : ∀ (xs : List (Key × Vl)) {vs : List (Key × V)}, RKs K ρ H xs vs → cloK k xs = true → RKs K (ρ.cut k) H xs vs
  | [], _, h, _ => h
  | (_, x) :: xs, _, ⟨v, r, h1, h2, h3⟩, c => ⟨v, r, h1, RV.cut x h2 (and2 c).1, RKs.cut xs h3 (and2 c).2⟩
theorem RTs.cut {k : Nat} : ∀ (xs : List (List Key × Vl)) {vs : List (List Key × V)}, RTs K ρ H xs vs → cloT k xs = true → RTs K (ρ.cut k) H xs vs
  | [], _, h, _ => h
  | (_, x) :: xs, _, ⟨v, r, h1, h2, h3⟩, c => ⟨v, r, h1, RV.cut x h2 (and2 c).1, RTs.cut xs h3 (and2 c).2⟩
theorem RFs.cut {k : Nat} : ∀ (xs : List (Str × Vl)) {vs : List (Str × V)}, RFs K ρ H xs vs → cloF k xs = true → RFs K (ρ.cut k) H xs vs
  | [], _, h, _ => h
  | (_, x) :: xs, _, ⟨v, r, h1, h2, h3⟩, c => ⟨v, r, h1, RV.cut x h2 (and2 c).1, RFs.cut xs h3 (and2 c).2⟩
end
def cloC (k : Nat) : Cell → Bool
  | .lst xs => cloL k xs
  | .dic xs => cloK k xs
  | .dit xs => cloT k xs
  | .ins _ fs => cloF k fs
theorem RC.clo {k : Nat} {a : Addr} (hk : ρ.c.length ≤ k) : ∀ {c : Cell}, RC K ρ H a c → cloC k c = true
  | .lst xs, ⟨_, _, h⟩ => RVs.clo hk xs h
  | .dic xs, ⟨_, _, h⟩ => RKs.clo hk xs h
  | .dit xs, ⟨_, _, h⟩ => RTs.clo hk xs h
  | .ins _ xs, ⟨_, _, _, h⟩ => RFs.clo hk xs h
theorem RC.cut {k : Nat} {a : Addr} : ∀ {c : Cell}, RC K ρ H a c → cloC k c = true → RC K (ρ.cut k) H a c
  | .lst xs, ⟨vs, h1, h⟩, c => ⟨vs, h1, RVs.cut' xs h c⟩
  | .dic xs, ⟨vs, h1, h⟩, c => ⟨vs, h1, RKs.cut xs h c⟩
  | .dit xs, ⟨vs, h1, h⟩, c => ⟨vs, h1, RTs.cut xs h c⟩
  | .ins _ xs, ⟨dx, vs, h1, h⟩, c => ⟨dx, vs, h1, RFs.cut xs h c⟩
/-- the memory m1 without what lies behind the first cells -/
theorem RM.cut {m' ex : Mem} (M : RM K ρ (m' ++ ex) H) (hc : ∀ (n : Nat) (c : Cell), m'[n]? = Option.some c → cloC m'.length c = true) : RM K (ρ.cut m'.length) m' H := by
  refine ⟨M.nd.sublist (List.take_sublist _ _), ?_, fun n c a h1 h2 => ?_, fun a ha => ?_⟩
  · show (ρ.c.take m'.length).length = m'.length
    rw [List.length_take, M.len, List.length_append]
    omega
  · have hn : n < m'.length := (List.getElem?_eq_some_iff.mp h1).1
    have h2' : (ρ.c.take m'.length)[n]? = Option.some a := h2
    rw [List.getElem?_take_of_lt hn] at h2'
    exact (M.at_ n c a (by rw [List.getElem?_append_left hn]; exact h1) h2').cut (hc n c h1)
  · rcases List.mem_append.mp ha with q | q
    · obtain ⟨h1, h2⟩ := M.zt a q
      exact ⟨cut_out h1, h2⟩
    · refine ⟨fun z => ?_, M.some (List.mem_of_mem_drop q)⟩
      have nd := M.nd
      rw [← List.take_append_drop m'.length ρ.c, List.nodup_append] at nd
      exact nd.2.2 a z a q rfl
theorem Ext.cut {m m' ex : Mem} (E : Ext ρ H ρ1 H1) (M : RM K ρ m H) (M1 : RM K ρ1 (m' ++ ex) H1) (hl : m'.length = m.length) : Ext ρ H (ρ1.cut m'.length) H1 := by
  obtain ⟨t, ht⟩ := E.pre
  have hc : ρ1.c.take m'.length = ρ.c := by rw [← ht, hl, ← M.len]; simp
  refine ⟨by show ρ.c <+: ρ1.c.take m'.length; rw [hc]; exact List.prefix_refl _, fun a h => List.mem_append_left _ (E.zin a h), E.keep, E.stay, fun a h => ?_, fun a h => ?_⟩
  · have h' : a ∈ ρ1.c.take m'.length := h
    rw [hc] at h'
    exact .inl h'
  · rcases List.mem_append.mp h with q | q
    · exact E.oldz a q
    · have hn : a ∉ ρ.c := fun z => by
        have nd := M1.nd
        rw [← List.take_append_drop m'.length ρ1.c, List.nodup_append] at nd
        exact nd.2.2 a (by rw [hc]; exact z) a q rfl
      rcases E.oldc a (List.mem_of_mem_drop q) with z | z
      · exact absurd z hn
      · exact .inr z
end
/-- what a result may be told as, behind the first k cells' end: the new cells are values, or forgotten -/
inductive PkV (k : Nat) (ex : Mem) : Vl → Vl → Prop
  | same {x : Vl} (h : clo k x = true) : PkV k ex x x
  | lst {n : Nat} {xs : List Vl} (h : ex[n]? = some (.lst xs)) (c : cloL k xs = true) : PkV k ex (.obj (k + n)) (.lst xs)
  | dic {n : Nat} {xs : List (Key × Vl)} (h : ex[n]? = some (.dic xs)) (c : cloK k xs = true) : PkV k ex (.obj (k + n)) (.dic xs)
  | dit {n : Nat} {xs : List (List Key × Vl)} (h : ex[n]? = some (.dit xs)) (c : cloT k xs = true) : PkV k ex (.obj (k + n)) (.dit xs)
  | ins {n : Nat} {cl : Str} {xs : List (Str × Vl)} (h : ex[n]? = some (.ins cl xs)) (c : cloF k xs = true) : PkV k ex (.obj (k + n)) (.ins cl xs)
theorem PkV.ok {K : PySem.W.Frag} {ρ : Lay} {H : Hp} {m' ex : Mem} {x y : Vl} {v : V} (p : PkV m'.length ex x y) (M : RM K ρ (m' ++ ex) H) (r : RV K ρ H x v) : RV K (ρ.cut m'.length) H y v := by
  have key : ∀ {n : Nat} {c : Cell}, ex[n]? = some c → ∀ {v : V}, RV K ρ H (.obj (m'.length + n)) v → ∃ a, v = .ref a ∧ RC K ρ H a c ∧ a ∈ (ρ.cut m'.length).z ∧ a ∉ (ρ.cut m'.length).c := by
    intro n c h v r
    obtain ⟨a, rfl, h2⟩ := r
    have hd : a ∈ ρ.c.drop m'.length := List.mem_of_getElem? (i := n) (by rw [List.getElem?_drop]; exact h2)
    refine ⟨a, rfl, M.at_ _ c a (by rw [List.getElem?_append_right (by omega)]; simpa using h) h2, List.mem_append_right _ hd, fun z => ?_⟩
    have nd := M.nd
    rw [← List.take_append_drop m'.length ρ.c, List.nodup_append] at nd
    exact nd.2.2 a z a hd rfl
  cases p with
  | same h => exact r.cut x h
  | lst h c =>
    obtain ⟨a, rfl, ⟨vs, h1, h2⟩, n⟩ := key h r
    exact ⟨a, vs, rfl, n, h1, RVs.cut' _ h2 c⟩
  | dic h c =>
    obtain ⟨a, rfl, ⟨vs, h1, h2⟩, n⟩ := key h r
    exact ⟨a, vs, rfl, n, h1, RKs.cut _ h2 c⟩
  | dit h c =>
    obtain ⟨a, rfl, ⟨vs, h1, h2⟩, n⟩ := key h r
    exact ⟨a, vs, rfl, n, h1, RTs.cut _ h2 c⟩
  | ins h c =>
    obtain ⟨a, rfl, ⟨dx, vs, h1, h2⟩, n⟩ := key h r
    exact ⟨a, dx, vs, rfl, n, h1, RFs.cut _ h2 c⟩
def PkR (k : Nat) (ex : Mem) : R Vl → R Vl → Prop
  | .ok x, .ok y => PkV k ex x y
  | .ex c fs, .ex c' fs' => c = c' ∧ fs = fs' ∧ cloF k fs = true
  | _, _ => False
/-- .. of a memory m: m1 behind it, told as m' -/
structure Pk (m : Mem) (r : R Vl) (m1 : Mem) (r' : R Vl) (m' : Mem) : Prop where
  ex : ∃ ex, m1 = m' ++ ex ∧ PkR m'.length ex r r'
  len : m'.length = m.length
  old : ∀ (n : Nat) (c : Cell), m'[n]? = some c → m[n]? = some c ∨ cloC m'.length c = true
theorem Pk.po {K : PySem.W.Frag} {ρ : Lay} {m m1 m' : Mem} {H : Hp} {r r' : R Vl} {W : Value → Option Addr → Hp → Prop} {Q : VK} (p : Pk m r m1 r' m') (M : RM K ρ m H) (h : Po K ρ H (RV K) W Q r' m') : Po K ρ H (RV K) W Q r m1 := fun ρ1 H1 M1 E => by
  obtain ⟨⟨ex, rfl, q⟩, hl, old⟩ := p
  have hc : ∀ (n : Nat) (c : Cell), m'[n]? = some c → cloC m'.length c = true := fun n c hn => by
    rcases old n c hn with z | z
    · obtain ⟨a, ha⟩ := M.adr z
      exact (M.at_ n c a z ha).clo (by rw [M.len, hl]; exact Nat.le_refl _)
    · exact z
  have M2 := M1.cut hc
  have E2 := E.cut M M1 hl
  have h2 := h _ H1 M2 E2
  cases r with
  | ok x =>
    cases r' with
    | ok y => exact fun v rv => h2 v (q.ok M1 rv)
    | ex c fs => exact q.elim
  | ex c fs =>
    cases r' with
    | ok y => exact q.elim
    | ex c' fs' =>
      obtain ⟨rfl, rfl, qc⟩ := q
      refine fun dd x => h2 dd ?_
      cases dd with
      | none => exact x
      | some d =>
        obtain ⟨gs, x1, x2, x3⟩ := x
        exact ⟨gs, x1, cut_out x2, RFs.cut _ x3 qc⟩
theorem Pk.pure {m ex : Mem} {x y : Vl} (h : PkV m.length ex x y) : Pk m (.ok x) (m ++ ex) (.ok y) m := ⟨⟨ex, rfl, h⟩, rfl, fun n c e => .inl e⟩
theorem Pk.here {m : Mem} {r : R Vl} (h : match r with | .ok x => clo m.length x = true | .ex _ fs => cloF m.length fs = true) : Pk m r m r m := ⟨⟨[], by simp, by
  cases r with
  | ok x => exact .same h
  | ex c fs => exact ⟨rfl, rfl, h⟩⟩, rfl, fun n c e => .inl e⟩
/-- an expression told otherwise -/
theorem SE.pack {X : Cx} {e : Expr} {d d' : DE} (h : SE X e d) (q : ∀ env m r' m', d' env m = some (r', m') → ∃ r m1, d env m = some (r, m1) ∧ Pk m r m1 r' m') : SE X e d' := ⟨fun W tk => impPE (h.run W tk) fun σ H Q ⟨ρ, env, m, z, m', s, e, p⟩ => by
  obtain ⟨r, m1, h1, pk⟩ := q env m z m' e
  exact ⟨ρ, env, m, r, m1, s, h1, pk.po s.mem p⟩⟩
/-! ### defs -/
abbrev FD := List Vl → Mem → Option (R Vl × Mem)
/-! ### what a def promises, where no guard is under way -/
structure Room (k : Nat) (A : Around) : Prop extends L2.Room k A where
  gd : A.guards = some []
theorem make_guards {A : Around} {C : Addr} {us : List Value} {kw : List (Str × Value)} (h : A.guards = some []) : (A.under (.builtin "type.__call__" ⟨.ref C :: us, kw⟩)).guards = some [] := by
  show pushGuards (Code.builtin "type.__call__" ⟨.ref C :: us, kw⟩).guards A.guards = some []
  rw [h]
  rfl
theorem Room.mono {j k : Nat} {A : Around} (r : Room k A) (h : j ≤ k) : Room j A := ⟨r.toRoom.mono h, r.gd⟩
theorem Room.deeper {k : Nat} {A : Around} (r : Room (k + 1) A) (env : Env) : Room k (A.deeper env) := ⟨r.toRoom.deeper env, r.gd⟩
theorem Room.in1 {k : Nat} {A : Around} (r : Room (k + 1) A) : Room k A.in1 := ⟨r.toRoom.in1, r.gd⟩
theorem Room.make {k : Nat} {A : Around} (r : Room (k + 1) A) (C : Addr) (us : List Value) (kw : List (Str × Value)) : Room k (A.under (.builtin "type.__call__" ⟨.ref C :: us, kw⟩)) := ⟨r.toRoom.make C us kw, make_guards r.gd⟩
structure FnOk (P : Program) (w : World) (K : PySem.W.Frag) (mg : Str → Option Value) (base : Heap) (CX : CXT) (k : Nat) (f : Addr) (fd : FuncData) (ps : List Str) (sp : Sp) : Prop where
  len : ∀ vs H Q E, sp vs H Q E → vs.length = ps.length
  run : ∀ (A : Around) (outer : List Env) (s : Shared) (H : Hp) (args : Args) (us : List Value) (vs : List V) (Q : VK) (E : XK), Room k A → Env0 P w K mg base A outer s H → BindsTo s fd args (ps.zip us) → Vals vs us → sp vs H Q E →
    codeAny (model P w) A (.call (.ref f) args) (CR CX outer P w H s Q E) s
theorem FnOk.mono {P : Program} {w : World} {K : PySem.W.Frag} {mg : Str → Option Value} {base : Heap} {CX : CXT} {j k : Nat} {f : Addr} {fd : FuncData} {ps : List Str} {sp : Sp} (F : FnOk P w K mg base CX j f fd ps sp) (h : j ≤ k) : FnOk P w K mg base CX k f fd ps sp :=
  ⟨F.len, fun A outer s H args us vs Q E hr => F.run A outer s H args us vs Q E (hr.mono h)⟩
theorem FnOk.imp {P : Program} {w : World} {K : PySem.W.Frag} {mg : Str → Option Value} {base : Heap} {CX : CXT} {k : Nat} {f : Addr} {fd : FuncData} {ps : List Str} {sp sp' : Sp} (F : FnOk P w K mg base CX k f fd ps sp) (h : ∀ vs H Q E, sp' vs H Q E → sp vs H Q E) : FnOk P w K mg base CX k f fd ps sp' :=
  ⟨fun vs H Q E q => F.len vs H Q E (h _ _ _ _ q), fun A outer s H args us vs Q E hr he hb hv hs => F.run A outer s H args us vs Q E hr he hb hv (h _ _ _ _ hs)⟩
/-- a def by its body, entered where no guard is under way -/
theorem funD_ok {P : Program} {w : World} {K : PySem.W.Frag} {mg : Str → Option Value} {base : Heap} {x qual : Str} {params : Arguments} {body : List Stmt} {scope : Scope} {dvs : List V} {kws : List (Str × V)} {f : Addr} {fd : FuncData} {CX : CXT} {N ps : List Str} {k : Nat} {sp : Sp}
    (F : FunD K x qual params body scope dvs kws f fd) (S : FnScope N ps scope) (len : ∀ vs H Q E, sp vs H Q E → vs.length = ps.length)
    (hb : ∀ (cdv : Value) (A : Around) (outer : List Env) (s : Shared) (H : Hp) (vs : List V) (Q : VK) (E : XK), Room k (A.deeper (envOfC qual scope s.heap.objs.size f cdv)) → sp vs H Q E →
      ∃ t, PSs (cxOf CX P w K mg base N qual scope f cdv A outer s H E) body t ∧ t { nx := fun _ H' => Q .non H', rt := Q } (L2.start N vs) H) : FnOk P w K mg base CX (k + 1) f fd ps sp := by
  obtain ⟨oc, od, dV, kV, doc, pm, an, cdv, ct, osl, rfl, lk, hcd, _, _⟩ := F.ex
  refine ⟨len, fun A outer s H args us vs Q E room e0 bnd rel hsp => ?_⟩
  have old : s.heap.NoLimit ∧ K.In s.heap := ⟨e0.mod.nolimit.keeps fun b o e => (e0.bs b o e).1, e0.mod.kin.keeps fun b o e => (e0.bs b o e).1⟩
  have named : ∀ y ∈ ps.zip us, scope.names.lookup y.1 = some .local ∨ (scope.names.lookup y.1 = some .cell ∧ ((cellsFrom (s.heap.objs.size + 1) scope.names []).lookup y.1).isSome = true) := by
    intro y hy
    exact (S.par y.1 (List.of_mem_zip hy).1).imp id fun q => ⟨q, PySem.W.cellsFrom_some _ _ _ (.inl q)⟩
  refine codeAny_call_function room.depth (old.2 _ _ lk) rfl S.co S.gen rfl (PySem.W.codeRec_of old.2 hcd) (bnd _ _ _ _ (wpAny_newFunctionEnv_cells S.kind named ?_))
  rintro _ rfl s1 x
  obtain ⟨t, ht, hq⟩ := hb cdv A outer s H vs Q E (room.deeper _) hsp
  refine ⟨old.1.keeps x.toInCall.keep, codeAny_func (wpAny_mono (ht.run [] s1 _ H _ (inv_start S room.hd e0 (len _ _ _ _ hsp) rel x) hq) (fun fl s' hs => ?_) fun _ _ h => h)⟩
  match fl, hs with
  | .ret u, ⟨v, σ', H', J, rv, q⟩ => exact ⟨v, H', J.os, J.bare, J.base, J.hok, rv, q⟩
  | .next, ⟨σ', H', J, q⟩ => exact ⟨.non, H', J.os, J.bare, J.base, J.hok, rfl, q⟩
  | .brk, ⟨_, _, _, q⟩ => exact q.elim
  | .cont, ⟨_, _, _, q⟩ => exact q.elim
def spZ (K : PySem.W.Frag) (n : Nat) (g : FD) : Sp := fun vs H Q E => vs.length = n ∧ ∃ ρ m xs r m', RM K ρ m H ∧ RVs K ρ H xs vs ∧ g xs m = some (r, m') ∧ Po K ρ H (RV K) (fun c dd H' => E c dd H') Q r m'
theorem spZ_pack {K : PySem.W.Frag} {n : Nat} {g g' : FD} (q : ∀ xs m r' m', g' xs m = some (r', m') → ∃ r m1, g xs m = some (r, m1) ∧ Pk m r m1 r' m') (vs : List V) (H : Hp) (Q : VK) (E : XK) (h : spZ K n g' vs H Q E) : spZ K n g vs H Q E := by
  obtain ⟨hl, ρ, m, xs, r', m', M, rx, e, p⟩ := h
  obtain ⟨r, m1, h1, pk⟩ := q xs m r' m' e
  exact ⟨hl, ρ, m, xs, r, m1, M, rx, h1, pk.po M p⟩
theorem spZ_imp {K : PySem.W.Frag} {n : Nat} {g g' : FD} (q : ∀ xs m r, xs.length = n → g' xs m = some r → g xs m = some r) (vs : List V) (H : Hp) (Q : VK) (E : XK) (h : spZ K n g' vs H Q E) : spZ K n g vs H Q E := by
  obtain ⟨hl, ρ, m, xs, r', m', M, rx, e, p⟩ := h
  exact ⟨hl, ρ, m, xs, r', m', M, rx, q xs m _ (by rw [rx.length]; exact hl) e, p⟩
def startZ (n : Nat) (xs : List Vl) : Ev := xs.map some ++ List.replicate (n - xs.length) none
/-- a def by its body: n names -/
def bodyD (n : Nat) (d : DS) : FD := fun xs m => match d (startZ n xs) m with
  | some (.rt v, m') => some (.ok v, m')
  | some (.nx _, m') => some (.ok .non, m')
  | some (.ex c fs _, m') => some (.ex c fs, m')
  | _ => none
theorem re_start {K : PySem.W.Frag} {ρ : Lay} {H : Hp} {xs : List Vl} {vs : List V} {N : List Str} (r : RVs K ρ H xs vs) : RE K ρ H (startZ N.length xs) (L2.start N vs) := by
  have hl := r.length
  refine ⟨by unfold startZ L2.start; simp [hl], fun i x e => ?_⟩
  unfold startZ at e
  unfold L2.start
  by_cases hi : i < xs.length
  · rw [List.getElem?_append_left (by simpa using hi), List.getElem?_map] at e
    cases h : xs[i]? with
    | none =>
      rw [h] at e
      cases e
    | some y =>
      rw [h] at e
      cases e
      obtain ⟨v, h1, h2⟩ := r.get h
      refine ⟨v, ?_, h2⟩
      rw [List.getElem?_append_left (by simpa [← hl] using hi), List.getElem?_map, h1]
      rfl
  · rw [List.getElem?_append_right (by simpa using hi)] at e
    rw [List.getElem?_replicate] at e
    split at e <;> cases e
theorem body_ok {P : Program} {w : World} {K : PySem.W.Frag} {mg : Str → Option Value} {base : Heap} {x qual : Str} {params : Arguments} {body : List Stmt} {scope : Scope} {dvs : List V} {kws : List (Str × V)} {f : Addr} {fd : FuncData} {N ps : List Str} {k : Nat} {d : DS}
    (F : FunD K x qual params body scope dvs kws f fd) (S : FnScope N ps scope)
    (hb : ∀ (cdv : Value) (A : Around) (outer : List Env) (s : Shared) (H : Hp) (E : XK), Room k (A.deeper (envOfC qual scope s.heap.objs.size f cdv)) → SSs (cxOf (L2.CX P w) P w K mg base N qual scope f cdv A outer s H E) body d) :
    FnOk P w K mg base (L2.CX P w) (k + 1) f fd ps (spZ K ps.length (bodyD N.length d)) := by
  refine funD_ok F S (fun vs H Q E h => h.1) fun cdv A outer s H vs Q E hr h => ?_
  refine ⟨_, (hb cdv A outer s H E hr).run (fun cls dd _ H' => E cls dd H') (takes_of rfl rfl rfl rfl), ?_⟩
  obtain ⟨hl, ρ, m, xs, r, m', M, rx, e, p⟩ := h
  unfold bodyD at e
  split at e
  · rename_i v m2 h1
    cases e
    exact ⟨ρ, _, m, _, _, ⟨M, re_start rx⟩, h1, fun ρ' H' M' E' v' rv => p ρ' H' M' E' v' rv⟩
  · rename_i env m2 h1
    cases e
    exact ⟨ρ, _, m, _, _, ⟨M, re_start rx⟩, h1, fun ρ' H' M' E' σ' rv => p ρ' H' M' E' .non rfl⟩
  · rename_i c fs env m2 h1
    cases e
    exact ⟨ρ, _, m, _, _, ⟨M, re_start rx⟩, h1, fun ρ' H' M' E' σ' rv dd x => p ρ' H' M' E' dd x⟩
  · cases e
/-- the def at f, called with n values and the keywords ks, is g of gz of these -/
structure Fz (P : Program) (w : World) (K : PySem.W.Frag) (mg : Str → Option Value) (base : Heap) (k : Nat) (f : Addr) (n : Nat) (ks : List Str) (gz : List Vl → List Vl → List Vl) (g : FD) : Prop where
  ex : ∃ fd ps gs gV, FnOk P w K mg base (L2.CX P w) k f fd ps (spZ K ps.length g) ∧ KBn K fd ps n ks gs gV ∧
    ∀ (ρ : Lay) (H : Hp) (xs : List Vl) (vs : List V) (ys : List Vl) (zs : List V), xs.length = n → ys.length = ks.length → RVs K ρ H xs vs → RVs K ρ H ys zs → (gV vs zs).length = ps.length ∧ RVs K ρ H (gz xs ys) (gV vs zs)
section
variable {X : Cx} {k n : Nat} {f : Addr} {ks : List Str} {gz : List Vl → List Vl → List Vl} {g : FD} {W : WX}
theorem Fz.imp {P : Program} {w : World} {K : PySem.W.Frag} {mg : Str → Option Value} {base : Heap} {g' : FD} (F : Fz P w K mg base k f n ks gz g) (q : ∀ xs m r' m', g' xs m = some (r', m') → ∃ r m1, g xs m = some (r, m1) ∧ Pk m r m1 r' m') : Fz P w K mg base k f n ks gz g' := by
  obtain ⟨fd, ps, gs, gV, h1, h2, h3⟩ := F.ex
  exact ⟨fd, ps, gs, gV, h1.imp fun vs H Q E h => spZ_pack q vs H Q E h, h2, h3⟩
theorem Fz.mono {P : Program} {w : World} {K : PySem.W.Frag} {mg : Str → Option Value} {base : Heap} {j : Nat} (F : Fz P w K mg base k f n ks gz g) (h : k ≤ j) : Fz P w K mg base j f n ks gz g := by
  obtain ⟨fd, ps, gs, gV, h1, h2, h3⟩ := F.ex
  exact ⟨fd, ps, gs, gV, h1.mono h, h2, h3⟩
theorem Fz.run (F : Fz X.prog X.w X.K X.mg X.base k f n ks gz g) (hr : Room k X.A) (tk : Takes X W) {pins : List (Addr × Obj)} {σ : L2.St} {H : Hp} {s : Shared} {Q : VK} {us ws : List Value} {vs zs : List V} {ρ : Lay} {m m' : Mem} {xs ys : List Vl} {r : R Vl}
    (I : Inv X pins σ H s) (a : Vals vs us) (b : Vals zs ws) (M : RM X.K ρ m H) (ra : RVs X.K ρ H xs vs) (rb : RVs X.K ρ H ys zs) (hn : xs.length = n) (hk : ys.length = ks.length) (e : g (gz xs ys) m = some (r, m'))
    (p : Po X.K ρ H (RV X.K) (fun c dd H' => W c dd σ H') Q r m') : wpAny (model X.prog X.w) X.A (call (.ref f) us (ks.zip ws)) (EP X pins σ Q) X.xe s := by
  obtain ⟨fd, ps, gs, gV, h1, h2, h3⟩ := F.ex
  obtain ⟨hl, rg⟩ := h3 ρ H xs vs ys zs hn hk ra rb
  have r2 := h2.rel a b
  refine wpAny_call (codeAny_mono (h1.run X.A X.stack s H ⟨us, ks.zip ws⟩ (gs us ws) (gV vs zs) Q (fun c dd H' => W c dd σ H') hr I.env0 (h2.to s us ws I.kIn (by rw [← a.length, ← ra.length]; exact hn) (by rw [← b.length, ← rb.length]; exact hk)) r2 ⟨hl, ρ, m, _, r, m', M, rg, e, p⟩) fun r s' hq => ?_)
  cases r with
  | error e => exact tk e s' (XE.of_call I (fun _ _ _ h => h) hq)
  | ok fl =>
    cases fl with
    | ret u => exact I.after hq
    | next => exact False.elim hq
    | brk => exact False.elim hq
    | cont => exact False.elim hq
end
/-! ### calls by name -/
structure SK (X : Cx) (kws : List Keyword) (d : DA) : Prop where
  run : ∀ W, Takes X W → PK X kws (rdA X.K W d)
section
variable {X : Cx} {e : Expr} {es : List Expr} {kws : List Keyword} {pos p : Pos} {de : DE} {d dk : DA} {x : Str} {k n : Nat} {f : Addr} {ks : List Str} {gz : List Vl → List Vl → List Vl} {g : FD}
theorem impPK {t t' : TA} (h : PK X kws t) (q : ∀ σ H Q, t' σ H Q → t σ H Q) : PK X kws t' := ⟨fun p pins s σ H Q I x => h.run p pins s σ H Q I (q σ H Q x)⟩
theorem sk_nil : SK X [] (fun _ m => some (.ok [], m)) := ⟨fun W tk => impPK pk_nil fun σ H Q ⟨ρ, env, m, z, m', s, e, p⟩ => by
  cases e
  exact p ρ H s.mem .refl [] rfl⟩
theorem sk_cons {nm : Option Str} {kpos : Pos} (ha : SE X e de) (hr : SK X kws d) : SK X (⟨nm, e, kpos⟩ :: kws) (dCons de d) := ⟨fun W tk =>
  impPK (pk_cons (ha.run W tk) (hr.run W tk)) fun σ H Q ⟨ρ, env, m, z, m', s, e, p⟩ =>
    bindE s e p fun x m1 ρ1 H1 v s1 E1 r1 e1 p1 => bindA s1 e1 p1 fun xs m2 ρ2 H2 vs s2 E2 r2 e2 p2 => by
      cases e2
      exact p2 ρ2 H2 s2.mem .refl _ ⟨v, vs, rfl, r1.mono E2, r2⟩⟩
variable {gd : List Vl → List Vl → Mem → Option (R Vl × Mem)}
/-- a call of what lies at f: n values, keywords ks -/
def Runs (X : Cx) (f : Addr) (n : Nat) (ks : List Str) (gd : List Vl → List Vl → Mem → Option (R Vl × Mem)) : Prop :=
  ∀ {W : WX} (_ : Takes X W) {pins : List (Addr × Obj)} {σ : L2.St} {H : Hp} {s : Shared} {Q : VK} {us ws : List Value} {vs zs : List V} {ρ : Lay} {m m' : Mem} {xs ys : List Vl} {r : R Vl}
    (_ : Inv X pins σ H s) (_ : Vals vs us) (_ : Vals zs ws) (_ : RM X.K ρ m H) (_ : RVs X.K ρ H xs vs) (_ : RVs X.K ρ H ys zs) (_ : xs.length = n) (_ : ys.length = ks.length) (_ : gd xs ys m = some (r, m'))
    (_ : Po X.K ρ H (RV X.K) (fun c dd H' => W c dd σ H') Q r m'), wpAny (model X.prog X.w) X.A (call (.ref f) us (ks.zip ws)) (EP X pins σ Q) X.xe s
theorem Fz.runs (F : Fz X.prog X.w X.K X.mg X.base k f n ks gz g) (hr : Room k X.A) : Z.Runs X f n ks (fun xs ys => g (gz xs ys)) := fun tk => F.run hr tk
def dCall (n j : Nat) (gd : List Vl → List Vl → Mem → Option (R Vl × Mem)) (d dk : DA) : DE := fun env m => bindR (d env m) fun xs m => bindR (dk env m) fun ys m => if xs.length = n ∧ ys.length = j then gd xs ys m else none
def dNone : DA := fun _ m => some (.ok [], m)
theorem se_call0 (R : Z.Runs X f 0 [] gd) (hk : PySem.W.keepIn X.K (.ref f) = true) (hm : X.mg x = some (.ref f)) (hg : Gl X x) (hdb : (x == ("__debug__" : Str)) = false := by decide) :
    SE X (.Call (.Name x p) [] [] pos) (dCall 0 0 gd dNone dNone) := ⟨fun W tk => ⟨fun pins s σ H Q I h => by
  obtain ⟨ρ, env, m, z, m', st, ee, pp⟩ := h
  unfold dCall dNone bindR at ee
  simp only [List.length_nil, and_self, if_true] at ee
  refine wpAny_Call_Name_kw (ld_glob I hg hm ?_ hdb)
  exact PySem.W.callWith_K0 I.kIn hk (R tk (us := []) (ws := []) (vs := []) (zs := []) (xs := []) (ys := []) I .nil .nil st.mem (show RVs X.K ρ H [] [] from rfl) (show RVs X.K ρ H [] [] from rfl) rfl rfl ee pp)⟩⟩
theorem se_call (R : Z.Runs X f n [] gd) (hk : PySem.W.keepIn X.K (.ref f) = true) (hm : X.mg x = some (.ref f)) (hg : Gl X x) (ha : SA X (e :: es) d) (hdb : (x == ("__debug__" : Str)) = false := by decide)
    (he : starEach (e :: es) X.env = (false, eval e X.env) :: starEach es X.env := by rfl) (hpl : (backTo pos (starEach es X.env)).any (·.1) = false := by rfl) : SE X (.Call (.Name x p) (e :: es) [] pos) (dCall n 0 gd d dNone) := ⟨fun W tk => ⟨fun pins s σ H Q I h => by
  obtain ⟨ρ, env, m, z, m', st, ee, pp⟩ := h
  have h' : rdA X.K W d σ H (fun vs H1 => ∃ ρ1 m1 xs, RM X.K ρ1 m1 H1 ∧ RVs X.K ρ1 H1 xs vs ∧ xs.length = n ∧ gd xs [] m1 = some (z, m') ∧ Po X.K ρ1 H1 (RV X.K) (fun c dd H' => W c dd σ H') Q z m') :=
    bindA st ee pp fun xs m1 ρ1 H1 vs s1 E1 r1 e1 p1 => by
      unfold dNone bindR at e1
      simp only at e1
      split at e1
      · rename_i hn
        exact ⟨ρ1, m1, xs, s1.mem, r1, hn.1, e1, p1⟩
      · cases e1
  refine wpAny_Call_Name_kw (ld_glob I hg hm ?_ hdb)
  refine PySem.W.callWith_K (h₀ := X.base) I.ok.mod.kin hk (thn ((ha.run W tk).run pos pins s σ H _ I h') fun us s1 ⟨vs, H1, I1, r, q⟩ => ⟨I1.kIn, ?_⟩) he hpl
  obtain ⟨ρ1, m1, xs, M1, rx, hn, e1, p1⟩ := q
  exact R tk (ws := []) I1 r .nil M1 rx (show RVs X.K ρ1 H1 [] [] from rfl) hn rfl e1 p1⟩⟩
theorem se_callK0 (R : Z.Runs X f 0 ks gd) (hk : PySem.W.keepIn X.K (.ref f) = true) (hm : X.mg x = some (.ref f)) (hg : Gl X x) (hkw : SK X kws dk)
    (hall : (backToKw pos (keywordEach kws X.env)).all (·.1.isSome) = true := by rfl) (hks : (backToKw pos (keywordEach kws X.env)).filterMap (·.1) = ks := by rfl) (hdb : (x == ("__debug__" : Str)) = false := by decide)
    (hpl : ((backTo pos (starEach [] X.env)).any (·.1) || (backToKw pos (keywordEach kws X.env)).any (·.1.isNone)) = false := by rfl) : SE X (.Call (.Name x p) [] kws pos) (dCall 0 ks.length gd dNone dk) := ⟨fun W tk => ⟨fun pins s σ H Q I h => by
  obtain ⟨ρ, env, m, z, m', st, ee, pp⟩ := h
  have h' : rdA X.K W dk σ H (fun zs H2 => ∃ ρ1 m1 ys, RM X.K ρ1 m1 H2 ∧ RVs X.K ρ1 H2 ys zs ∧ ys.length = ks.length ∧ gd [] ys m1 = some (z, m') ∧ Po X.K ρ1 H2 (RV X.K) (fun c dd H' => W c dd σ H') Q z m') := by
    unfold dCall dNone at ee
    have ee' : (bindR (dk env m) fun ys m => if ([] : List Vl).length = 0 ∧ ys.length = ks.length then gd [] ys m else none) = some (z, m') := ee
    refine bindA st ee' pp fun ys m2 ρ2 H2 zs s2 E2 r2 e2 p2 => ?_
    split at e2
    · rename_i hn
      exact ⟨ρ2, m2, ys, s2.mem, r2, hn.2, e2, p2⟩
    · cases e2
  refine wpAny_Call_Name_kw (ld_glob I hg hm ?_ hdb)
  refine PySem.W.callWith_KW0 (h₀ := X.base) I.ok.mod.kin hk hall ?_ hpl
  refine thn ((hkw.run W tk).run pos pins s σ H _ I h') fun ws s2 ⟨zs, H2, I2, rz, q2⟩ => ⟨I2.kIn, ?_⟩
  rw [hks]
  obtain ⟨ρ1, m1, ys, M1, ry, hy, e1, p1⟩ := q2
  exact R tk (us := []) (vs := []) (xs := []) I2 .nil rz M1 (show RVs X.K ρ1 H2 [] [] from rfl) ry rfl hy e1 p1⟩⟩
theorem se_callK (R : Z.Runs X f n ks gd) (hk : PySem.W.keepIn X.K (.ref f) = true) (hm : X.mg x = some (.ref f)) (hg : Gl X x) (ha : SA X (e :: es) d) (hkw : SK X kws dk)
    (hall : (backToKw pos (keywordEach kws X.env)).all (·.1.isSome) = true := by rfl) (hks : (backToKw pos (keywordEach kws X.env)).filterMap (·.1) = ks := by rfl)
    (hdb : (x == ("__debug__" : Str)) = false := by decide) (he : starEach (e :: es) X.env = (false, eval e X.env) :: starEach es X.env := by rfl)
    (hpl : ((backTo pos (starEach (e :: es) X.env)).any (·.1) || (backToKw pos (keywordEach kws X.env)).any (·.1.isNone)) = false := by rfl) : SE X (.Call (.Name x p) (e :: es) kws pos) (dCall n ks.length gd d dk) := ⟨fun W tk => ⟨fun pins s σ H Q I h => by
  obtain ⟨ρ, env, m, z, m', st, ee, pp⟩ := h
  have h' : rdA X.K W d σ H (fun vs H1 => rdA X.K W dk σ H1 fun zs H2 => ∃ ρ1 m1 xs ys, RM X.K ρ1 m1 H2 ∧ RVs X.K ρ1 H2 xs vs ∧ RVs X.K ρ1 H2 ys zs ∧ xs.length = n ∧ ys.length = ks.length ∧ gd xs ys m1 = some (z, m') ∧ Po X.K ρ1 H2 (RV X.K) (fun c dd H' => W c dd σ H') Q z m') :=
    bindA st ee pp fun xs m1 ρ1 H1 vs s1 E1 r1 e1 p1 => bindA s1 e1 p1 fun ys m2 ρ2 H2 zs s2 E2 r2 e2 p2 => by
      split at e2
      · rename_i hn
        exact ⟨ρ2, m2, xs, ys, s2.mem, r1.mono E2, r2, hn.1, hn.2, e2, p2⟩
      · cases e2
  refine wpAny_Call_Name_kw (ld_glob I hg hm ?_ hdb)
  refine PySem.W.callWith_KW (h₀ := X.base) I.ok.mod.kin hk hall (thn ((ha.run W tk).run pos pins s σ H _ I h') fun us s1 ⟨vs, H1, I1, r, q⟩ => ?_) hpl he
  refine thn ((hkw.run W tk).run pos pins s1 σ H1 _ I1 q) fun ws s2 ⟨zs, H2, I2, rz, q2⟩ => ⟨I2.kIn, ?_⟩
  rw [hks]
  obtain ⟨ρ1, m1, xs, ys, M1, rx, ry, hn, hy, e1, p1⟩ := q2
  exact R tk I2 r rz M1 rx ry hn hy e1 p1⟩⟩
end
end Z
namespace Z
open PySem PySem.Spec PyProof.Rows L2
/-! ### instances -/
def insD (m : Mem) : Vl → Option (Str × List (Str × Vl))
  | .ins c fs => some (c, fs)
  | .obj n => (match m[n]? with
    | some (.ins c fs) => some (c, fs)
    | _ => none)
  | _ => none
theorem insD_ok {K : PySem.W.Frag} {ρ : Lay} {m : Mem} {H : Hp} {x : Vl} {v : V} {c : Str} {fs : List (Str × Vl)} (M : RM K ρ m H) (a : RV K ρ H x v) (h : insD m x = some (c, fs)) : ∃ p dx gs, v = .ref p ∧ H p = some (.ins (He.ga K c) dx gs) ∧ RFs K ρ H fs gs := by
  unfold insD at h
  split at h
  · cases h
    obtain ⟨p, dx, gs, rfl, _, h1, h2⟩ := a
    exact ⟨p, dx, gs, rfl, h1, h2⟩
  · rename_i n
    split at h
    · rename_i c' fs' hy
      cases h
      obtain ⟨p, rfl, hp⟩ := a
      obtain ⟨dx, gs, h1, h2⟩ := M.at_ _ _ _ hy hp
      exact ⟨p, dx, gs, rfl, h1, h2⟩
    · cases h
  · cases h
/-- what the classes cs say of the attribute f: no class of theirs has it -/
def ClsF (K : PySem.W.Frag) (cs : List Str) (f : Str) : Prop := ∀ c ∈ cs, Cls K (He.ga K c) ∧ NoAttr K (He.ga K c) f
section
variable {X : Cx} {e o value : Expr} {es : List Expr} {kws : List Keyword} {pos p apos pos' : Pos} {de dv : DE} {d dk : DA} {x c : Str} {k n : Nat} {f : Addr} {ks : List Str} {gz : List Vl → List Vl → List Vl} {g : FD} {cs : List Str} {fn mn : Str}
def dFld (cs : List Str) (fn : Str) (de : DE) : DE := fun env m => bindR (de env m) fun x m => match insD m x with
  | some (c, fs) => if cs.contains c = true then (match fs.lookup fn with
    | some v => some (.ok v, m)
    | none => none) else none
  | none => none
theorem se_fld (he : SE X e de) (hc : ClsF X.K cs fn) (hb : attributeBase e fn X.env (eval e X.env) = eval e X.env := by rfl) : SE X (.Attribute e fn pos) (dFld cs fn de) := ⟨fun W tk =>
  impPE (pe_fld (he.run W tk) hb) fun σ H Q ⟨ρ, env, m, z, m', s, e, p⟩ => bindE s e p fun x m1 ρ1 H1 v s1 E1 r1 e1 p1 => by
    split at e1
    · rename_i c fs hi
      split at e1
      · rename_i hcs
        split at e1
        · rename_i w hw
          cases e1
          obtain ⟨a, dx, gs, rfl, h1, h2⟩ := insD_ok s1.mem r1 hi
          obtain ⟨v, h3, h4⟩ := h2.get hw
          obtain ⟨k1, k2⟩ := hc c (by simpa using hcs)
          exact ⟨a, _, dx, gs, v, rfl, h1, k1, k2, h3, p1 ρ1 H1 s1.mem .refl v h4⟩
        · cases e1
      · cases e1
    · cases e1⟩
/-- o.f = e, o a cell -/
def sFldD (cs : List Str) (fn : Str) (dv de : DE) : DS := fun env m => bindS (dv env m) env fun y m => bindS (de env m) env fun x m => match x with
  | .obj n => (match m[n]? with
    | some (.ins c fs) => if (cs.contains c && decide (fs.length < 1000)) = true then some (.nx env, m.set n (.ins c (putL fn y fs))) else none
    | _ => none)
  | _ => none
theorem ss_fld (ho : SE X o de) (hv : SE X value dv) (hc : ClsF X.K cs fn) (hs : swapsWith value (some (.Attribute o fn pos')) pos.line X.env = pure false := by rfl) : SS X (.Assign [.Attribute o fn pos'] value pos) (sFldD cs fn dv de) := ⟨fun W tk =>
  impPS (ps_fld (ho.run W tk) (hv.run W tk) hs) fun D σ H ⟨ρ, env, m, f, m', s, e, p⟩ => sbE s e p fun y m1 ρ1 H1 v s1 E1 r1 e1 p1 => sbE s1 e1 p1 fun x m2 ρ2 H2 u s2 E2 r2 e2 p2 => by
    split at e2
    · rename_i n
      split at e2
      · rename_i c fs hm
        split at e2
        · rename_i hcs
          cases e2
          rw [Bool.and_eq_true, decide_eq_true_eq] at hcs
          obtain ⟨a, rfl, hp⟩ := r2
          obtain ⟨dx, gs, h1, h2⟩ := s2.mem.at_ _ _ _ hm hp
          obtain ⟨k1, k2⟩ := hc c (by simpa using hcs.1)
          have hex : Ext ρ2 H2 ρ2 (upd H2 a (.ins (He.ga X.K c) dx (putF fn v gs))) := ext_set (List.mem_of_getElem? hp)
          refine ⟨a, _, dx, gs, rfl, h1, k1, k2, by rw [← h2.length]; exact hcs.2, p2 ρ2 _ (s2.mem.put hp ⟨dx, _, upd_same, (h2.mono hex).put ((r1.mono E2).mono hex)⟩) hex σ (s2.env.mono hex)⟩
        · cases e2
      · cases e2
    · cases e2⟩
/-! ### C(..) -/
/-- what a new instance of c is made by: __init__ at f -/
def initD (c : Str) (gz : List Vl → List Vl → List Vl) (g : FD) (xs ys : List Vl) (m : Mem) : Option (R Vl × Mem) := match g (gz (.obj m.length :: xs) ys) (m ++ [.ins c []]) with
  | some (.ok .non, m') => some (.ok (.obj m.length), m')
  | some (.ex c fs, m') => some (.ex c fs, m')
  | _ => none
theorem Fz.make {W : WX} (M : Mk X.K (He.ga X.K c) f) (F : Fz X.prog X.w X.K X.mg X.base k f (n + 1) ks gz g) (hr : Room (k + 1) X.A) (tk : Takes X W) {pins : List (Addr × Obj)} {σ : L2.St} {H : Hp} {s : Shared} {Q : VK} {us ws : List Value} {vs zs : List V} {ρ : Lay} {m m' : Mem} {xs ys : List Vl} {r : R Vl}
    (I : Inv X pins σ H s) (a : Vals vs us) (b : Vals zs ws) (Mm : RM X.K ρ m H) (ra : RVs X.K ρ H xs vs) (rb : RVs X.K ρ H ys zs) (hn : xs.length = n) (hk : ys.length = ks.length) (e : initD c gz g xs ys m = some (r, m'))
    (p : Po X.K ρ H (RV X.K) (fun c dd H' => W c dd σ H') Q r m') : wpAny (model X.prog X.w) X.A (call (.ref (He.ga X.K c)) us (ks.zip ws)) (EP X pins σ Q) X.xe s := by
  obtain ⟨fd, ps, gs, gV, h1, h2, h3⟩ := F.ex
  have I2 := Inv.made (C := He.ga X.K c) I
  have f1 : H s.heap.objs.size = none := I.hok.fresh (Nat.le_refl _)
  have f2 : H (s.heap.objs.size + 1) = none := I.hok.fresh (Nat.le_succ _)
  have M1 := Mm.laid (o := .own (s.heap.objs.size + 1)) f1
  have ne1 : s.heap.objs.size + 1 ≠ s.heap.objs.size := Nat.succ_ne_self _
  have f3 : (upd H s.heap.objs.size (.own (s.heap.objs.size + 1))) (s.heap.objs.size + 1) = none := by rw [upd_ne ne1]; exact f2
  have M2 := M1.laid (o := .ins (He.ga X.K c) s.heap.objs.size []) f3
  have w1 := M1.fresh f3
  have w2 := M1.freshz f3
  have E0 : Ext ρ H ρ (upd (upd H s.heap.objs.size (.own (s.heap.objs.size + 1))) (s.heap.objs.size + 1) (.ins (He.ga X.K c) s.heap.objs.size [])) := (ext_new f1).trans (ext_new f3)
  have E3 := E0.toCel ⟨w1, w2, f2⟩
  have M3 := M2.toCel (c := .ins c []) w1 w2 upd_same rfl ⟨s.heap.objs.size, [], upd_same, rfl⟩
  have ro : RV X.K (ρ.cel (s.heap.objs.size + 1)) (upd (upd H s.heap.objs.size (.own (s.heap.objs.size + 1))) (s.heap.objs.size + 1) (.ins (He.ga X.K c) s.heap.objs.size [])) (.obj m.length) (.ref (s.heap.objs.size + 1)) := ⟨_, rfl, by
    show (ρ.c ++ [s.heap.objs.size + 1])[m.length]? = _
    rw [← Mm.len]
    simp⟩
  have rx : RVs X.K (ρ.cel (s.heap.objs.size + 1)) (upd (upd H s.heap.objs.size (.own (s.heap.objs.size + 1))) (s.heap.objs.size + 1) (.ins (He.ga X.K c) s.heap.objs.size [])) (.obj m.length :: xs) (.ref (s.heap.objs.size + 1) :: vs) := ⟨_, _, rfl, ro, ra.mono E3⟩
  have r1 : Vals (V.ref (s.heap.objs.size + 1) :: vs) (Value.ref (s.heap.objs.size + 1) :: us) := .cons rfl a
  obtain ⟨hl, rg⟩ := h3 _ _ _ _ ys zs (by rw [List.length_cons, hn]) hk rx (rb.mono E3)
  have r2 := h2.rel r1 b
  have hpost : ∃ r0, g (gz (.obj m.length :: xs) ys) (m ++ [.ins c []]) = some (r0, m') ∧ Po X.K (ρ.cel (s.heap.objs.size + 1)) (upd (upd H s.heap.objs.size (.own (s.heap.objs.size + 1))) (s.heap.objs.size + 1) (.ins (He.ga X.K c) s.heap.objs.size [])) (RV X.K) (fun c dd H' => W c dd σ H') (fun v H2 => v = .non ∧ Q (.ref (s.heap.objs.size + 1)) H2) r0 m' := by
    unfold initD at e
    split at e
    · rename_i m2 h4
      cases e
      refine ⟨_, h4, fun ρ' H' M' E' v rv => ⟨rv, p ρ' H' M' (E3.trans E') _ (ro.mono E')⟩⟩
    · rename_i c' fs m2 h4
      cases e
      exact ⟨_, h4, fun ρ' H' M' E' dd x => p ρ' H' M' (E3.trans E') dd x⟩
    · cases e
  obtain ⟨r0, hg, hp⟩ := hpost
  refine wpAny_call (make_map (f := f) I.kIn M.makes M.init (beq_iff_eq.mp M.fn) (codeAny_mono (h1.run _ X.stack _ _ ⟨Value.ref (s.heap.objs.size + 1) :: us, ks.zip ws⟩ (gs (Value.ref (s.heap.objs.size + 1) :: us) ws) _ _ (fun c dd H' => W c dd σ H') (hr.make _ us (ks.zip ws))
    (I2.env0.make _ us (ks.zip ws)) (h2.to _ (Value.ref (s.heap.objs.size + 1) :: us) ws I2.kIn (by rw [List.length_cons, ← a.length, ← ra.length, hn]) (by rw [← b.length, ← rb.length]; exact hk)) r2 ⟨hl, _, _, _, r0, m', M3, rg, hg, hp⟩) fun r s' hq' => ?_))
  cases r with
  | error e => exact tk e s' (XE.of_call I2 (fun _ _ _ h => h) hq')
  | ok fl =>
    cases fl with
    | ret u =>
      obtain ⟨v, H', I3, rv, ev, q3⟩ := I2.after hq'
      subst ev
      exact ⟨rv, ⟨V.ref (s.heap.objs.size + 1), H', I3, rfl, q3⟩⟩
    | next => exact False.elim hq'
    | brk => exact False.elim hq'
    | cont => exact False.elim hq'
theorem Fz.mruns (M : Mk X.K (He.ga X.K c) f) (F : Fz X.prog X.w X.K X.mg X.base k f (n + 1) ks gz g) (hr : Room (k + 1) X.A)   : Z.Runs X (He.ga X.K c) n ks (initD c gz g) := fun tk => F.make M hr tk
/-! ### methods -/
/-- o.m(..) of an instance of the class c -/
def dMeth (c mn : Str) (n j : Nat) (gz : List Vl → List Vl → List Vl) (g : FD) (de : DE) (d dk : DA) : DE := fun env m => bindR (de env m) fun x m => match insD m x with
  | some (c', fs) => if (decide (c' = c) && (fs.lookup mn).isNone) = true then bindR (d env m) fun xs m => bindR (dk env m) fun ys m => if xs.length = n ∧ ys.length = j then g (gz (x :: xs) ys) m else none else none
  | none => none
theorem se_meth {pl : Sem Bool} (he : SE X o de) (hc : Cls X.K (He.ga X.K c)) (hm : Meth X.K (He.ga X.K c) mn f) (F : Fz X.prog X.w X.K X.mg X.base k f (n + 1) [] gz g) (hr : Room k X.A) (ha : SA X (e :: es) d)
    (hst : starEach (e :: es) X.env = (false, eval e X.env) :: starEach es X.env := by rfl) (hpl : (backTo pos (starEach es X.env)).any (·.1) = false := by rfl)
    (ht : eval (.Call (.Attribute o mn apos) (e :: es) [] pos) X.env = (do
      let ov ← eval o X.env
      standAt apos.atName
      let (f, first) ← holding [ov] (getMethod ov mn pl)
      callWith pos f first (backTo pos (starEach (e :: es) X.env)) (backToKw pos (keywordEach [] X.env))) := by rfl) :
    SE X (.Call (.Attribute o mn apos) (e :: es) [] pos) (dMeth c mn n 0 gz g de d dNone) := ⟨fun W tk => ⟨fun pins s σ H Q I h => by
  obtain ⟨ρ, env, m, z, m', st, ee, pp⟩ := h
  have h' : rdE X.K W de σ H (fun v H1 => ∃ a dx gs, v = .ref a ∧ H1 a = some (.ins (He.ga X.K c) dx gs) ∧ gs.lookup mn = none ∧ rdA X.K W d σ H1 fun vs H2 => ∃ ρ1 m1 xs, RM X.K ρ1 m1 H2 ∧ RVs X.K ρ1 H2 xs (.ref a :: vs) ∧ xs.length = n + 1 ∧ g (gz xs []) m1 = some (z, m') ∧ Po X.K ρ1 H2 (RV X.K) (fun c dd H' => W c dd σ H') Q z m') :=
    bindE st ee pp fun x m1 ρ1 H1 v s1 E1 r1 e1 p1 => by
      split at e1
      · rename_i c' fs hi
        split at e1
        · rename_i hcc
          rw [Bool.and_eq_true, decide_eq_true_eq, Option.isNone_iff_eq_none] at hcc
          obtain ⟨rfl, hl⟩ := hcc
          obtain ⟨a, dx, gs, rfl, h1, h2⟩ := insD_ok s1.mem r1 hi
          refine ⟨a, dx, gs, rfl, h1, h2.none hl, bindA s1 e1 p1 fun xs m2 ρ2 H2 vs s2 E2 r2 e2 p2 => ?_⟩
          unfold dNone bindR at e2
          simp only at e2
          split at e2
          · rename_i hn
            exact ⟨ρ2, m2, x :: xs, s2.mem, ⟨_, _, rfl, r1.mono E2, r2⟩, by rw [List.length_cons, hn.1], e2, p2⟩
          · cases e2
        · cases e1
      · cases e1
  refine PySem.W.methodCall_KW (pl := pl) (thn ((he.run W tk).run pins s σ H _ I h') fun u s1 ⟨x, H1, I1, rx, a, dx, fs, ex, ea, l, q⟩ => ?_) ht
  subst ex
  obtain rfl : u = Value.ref a := rx
  refine getmeth_ok I1 ea hc hm l ?_
  refine PySem.W.callWith_K (first := [.ref a]) (h₀ := X.base) I.ok.mod.kin hm.kp (thn ((ha.run W tk).run pos pins s1 σ H1 _ I1 q) fun us s2 ⟨vs, H2, I2, r, q2⟩ => ⟨I2.kIn, ?_⟩) hst hpl
  obtain ⟨ρ1, m1, xs, M1, rx, hn, e1, p1⟩ := q2
  exact F.run hr tk (us := .ref a :: us) (vs := .ref a :: vs) (ws := []) I2 (.cons rfl r) .nil M1 rx (show RVs X.K ρ1 H2 [] [] from rfl) hn rfl e1 p1⟩⟩
theorem se_meth0 {pl : Sem Bool} (he : SE X o de) (hc : Cls X.K (He.ga X.K c)) (hm : Meth X.K (He.ga X.K c) mn f) (F : Fz X.prog X.w X.K X.mg X.base k f 1 [] gz g) (hr : Room k X.A)
    (ht : eval (.Call (.Attribute o mn apos) [] [] pos) X.env = (do
      let ov ← eval o X.env
      standAt apos.atName
      let (f, first) ← holding [ov] (getMethod ov mn pl)
      callWith pos f first (backTo pos (starEach [] X.env)) (backToKw pos (keywordEach [] X.env))) := by rfl) :
    SE X (.Call (.Attribute o mn apos) [] [] pos) (dMeth c mn 0 0 gz g de dNone dNone) := ⟨fun W tk => ⟨fun pins s σ H Q I h => by
  obtain ⟨ρ, env, m, z, m', st, ee, pp⟩ := h
  have h' : rdE X.K W de σ H (fun v H1 => ∃ a dx gs, v = .ref a ∧ H1 a = some (.ins (He.ga X.K c) dx gs) ∧ gs.lookup mn = none ∧ ∃ ρ1 m1 xs, RM X.K ρ1 m1 H1 ∧ RVs X.K ρ1 H1 xs [.ref a] ∧ xs.length = 1 ∧ g (gz xs []) m1 = some (z, m') ∧ Po X.K ρ1 H1 (RV X.K) (fun c dd H' => W c dd σ H') Q z m') :=
    bindE st ee pp fun x m1 ρ1 H1 v s1 E1 r1 e1 p1 => by
      split at e1
      · rename_i c' fs hi
        split at e1
        · rename_i hcc
          rw [Bool.and_eq_true, decide_eq_true_eq, Option.isNone_iff_eq_none] at hcc
          obtain ⟨rfl, hl⟩ := hcc
          obtain ⟨a, dx, gs, rfl, h1, h2⟩ := insD_ok s1.mem r1 hi
          unfold dNone bindR at e1
          simp only [List.length_nil, and_self, if_true] at e1
          exact ⟨a, dx, gs, rfl, h1, h2.none hl, ρ1, m1, [x], s1.mem, ⟨_, _, rfl, r1, rfl⟩, rfl, e1, p1⟩
        · cases e1
      · cases e1
  refine PySem.W.methodCall_KW (pl := pl) (thn ((he.run W tk).run pins s σ H _ I h') fun u s1 ⟨x, H1, I1, rx, a, dx, fs, ex, ea, l, q⟩ => ?_) ht
  subst ex
  obtain rfl : u = Value.ref a := rx
  refine getmeth_ok I1 ea hc hm l ?_
  obtain ⟨ρ1, m1, xs, M1, rx, hn, e1, p1⟩ := q
  exact PySem.W.callWith_K0 (first := [.ref a]) I1.kIn hm.kp (F.run hr tk (us := [.ref a]) (vs := [.ref a]) (ws := []) I1 (.cons rfl .nil) .nil M1 rx (show RVs X.K ρ1 H1 [] [] from rfl) hn rfl e1 p1)⟩⟩
theorem se_methK {pl : Sem Bool} (he : SE X o de) (hc : Cls X.K (He.ga X.K c)) (hm : Meth X.K (He.ga X.K c) mn f) (F : Fz X.prog X.w X.K X.mg X.base k f (n + 1) ks gz g) (hr : Room k X.A) (ha : SA X (e :: es) d) (hkw : SK X kws dk)
    (hall : (backToKw pos (keywordEach kws X.env)).all (·.1.isSome) = true := by rfl) (hks : (backToKw pos (keywordEach kws X.env)).filterMap (·.1) = ks := by rfl)
    (hst : starEach (e :: es) X.env = (false, eval e X.env) :: starEach es X.env := by rfl)
    (hpl : ((backTo pos (starEach (e :: es) X.env)).any (·.1) || (backToKw pos (keywordEach kws X.env)).any (·.1.isNone)) = false := by rfl)
    (ht : eval (.Call (.Attribute o mn apos) (e :: es) kws pos) X.env = (do
      let ov ← eval o X.env
      standAt apos.atName
      let (f, first) ← holding [ov] (getMethod ov mn pl)
      callWith pos f first (backTo pos (starEach (e :: es) X.env)) (backToKw pos (keywordEach kws X.env))) := by rfl) :
    SE X (.Call (.Attribute o mn apos) (e :: es) kws pos) (dMeth c mn n ks.length gz g de d dk) := ⟨fun W tk => ⟨fun pins s σ H Q I h => by
  obtain ⟨ρ, env, m, z, m', st, ee, pp⟩ := h
  have h' : rdE X.K W de σ H (fun v H1 => ∃ a dx gs, v = .ref a ∧ H1 a = some (.ins (He.ga X.K c) dx gs) ∧ gs.lookup mn = none ∧ rdA X.K W d σ H1 fun vs H2 => rdA X.K W dk σ H2 fun zs H3 => ∃ ρ1 m1 xs ys, RM X.K ρ1 m1 H3 ∧ RVs X.K ρ1 H3 xs (.ref a :: vs) ∧ RVs X.K ρ1 H3 ys zs ∧ xs.length = n + 1 ∧ ys.length = ks.length ∧ g (gz xs ys) m1 = some (z, m') ∧ Po X.K ρ1 H3 (RV X.K) (fun c dd H' => W c dd σ H') Q z m') :=
    bindE st ee pp fun x m1 ρ1 H1 v s1 E1 r1 e1 p1 => by
      split at e1
      · rename_i c' fs hi
        split at e1
        · rename_i hcc
          rw [Bool.and_eq_true, decide_eq_true_eq, Option.isNone_iff_eq_none] at hcc
          obtain ⟨rfl, hl⟩ := hcc
          obtain ⟨a, dx, gs, rfl, h1, h2⟩ := insD_ok s1.mem r1 hi
          refine ⟨a, dx, gs, rfl, h1, h2.none hl, bindA s1 e1 p1 fun xs m2 ρ2 H2 vs s2 E2 r2 e2 p2 => bindA s2 e2 p2 fun ys m3 ρ3 H3 zs s3 E3 r3 e3 p3 => ?_⟩
          split at e3
          · rename_i hn
            exact ⟨ρ3, m3, x :: xs, ys, s3.mem, ⟨_, _, rfl, r1.mono (E2.trans E3), r2.mono E3⟩, r3, by rw [List.length_cons, hn.1], hn.2, e3, p3⟩
          · cases e3
        · cases e1
      · cases e1
  refine PySem.W.methodCall_KW (pl := pl) (thn ((he.run W tk).run pins s σ H _ I h') fun u s1 ⟨x, H1, I1, rx, a, dx, fs, ex, ea, l, q⟩ => ?_) ht
  subst ex
  obtain rfl : u = Value.ref a := rx
  refine getmeth_ok I1 ea hc hm l ?_
  refine PySem.W.callWith_KW (first := [.ref a]) (h₀ := X.base) I.ok.mod.kin hm.kp hall (thn ((ha.run W tk).run pos pins s1 σ H1 _ I1 q) fun us s2 ⟨vs, H2, I2, r, q2⟩ => ?_) hpl hst
  refine thn ((hkw.run W tk).run pos pins s2 σ H2 _ I2 q2) fun ws s3 ⟨zs, H3, I3, rz, q3⟩ => ⟨I3.kIn, ?_⟩
  rw [hks]
  obtain ⟨ρ1, m1, xs, ys, M1, rx, ry, hn, hy, e1, p1⟩ := q3
  exact F.run hr tk (us := .ref a :: us) (vs := .ref a :: vs) I3 (.cons rfl r) rz M1 rx ry hn hy e1 p1⟩⟩
/-! ### properties -/
def dProp (c fn : Str) (gz : List Vl → List Vl → List Vl) (g : FD) (de : DE) : DE := fun env m => bindR (de env m) fun x m => match insD m x with
  | some (c', fs) => if c' = c then (match g (gz [x] []) m with
    | some (.ok v, m) => some (.ok v, m)
    | _ => none) else none
  | none => none
theorem passF : Passes (L2.CX X.prog X.w) X.nox (fun _ _ _ => False) := fun _ _ _ _ _ _ _ h => by
  obtain ⟨_, _, _, _, _, _, _, _, _, _, _, _, q⟩ := h
  exact q
theorem se_prop {pa : Addr} (he : SE X e de) (hc : Cls X.K (He.ga X.K c)) (hp : PropOf X.K (He.ga X.K c) fn pa f) (F : Fz X.prog X.w X.K X.mg X.base k f 1 [] gz g) (hr : Room (k + 1) X.A)
    (hab : attributeBase e fn X.env (eval e X.env) = eval e X.env := by rfl) : SE X (.Attribute e fn pos) (dProp c fn gz g de) := ⟨fun W tk => ⟨fun pins s σ H Q I h => by
  obtain ⟨ρ, env, m, z, m', st, ee, pp⟩ := h
  have h' : rdE X.K W de σ H (fun v H1 => ∃ a dx gs, v = .ref a ∧ H1 a = some (.ins (He.ga X.K c) dx gs) ∧ ∃ ρ1 m1 xs, RM X.K ρ1 m1 H1 ∧ RVs X.K ρ1 H1 xs [.ref a] ∧ xs.length = 1 ∧ g (gz xs []) m1 = some (z, m') ∧ (∃ v, z = .ok v) ∧ Po X.K ρ1 H1 (RV X.K) (fun c dd H' => W c dd σ H') Q z m') :=
    bindE st ee pp fun x m1 ρ1 H1 v s1 E1 r1 e1 p1 => by
      split at e1
      · rename_i c' fs hi
        split at e1
        · rename_i hcc
          subst hcc
          obtain ⟨a, dx, gs, rfl, h1, h2⟩ := insD_ok s1.mem r1 hi
          split at e1
          · rename_i w m2 hg
            cases e1
            exact ⟨a, dx, gs, rfl, h1, ρ1, m1, [x], s1.mem, ⟨_, _, rfl, r1, rfl⟩, rfl, hg, ⟨_, rfl⟩, p1⟩
          · cases e1
        · cases e1
      · cases e1
  refine attr_of hab (thn ((he.run W tk).run pins s σ H _ I h') fun u s1 ⟨x, H1, I1, rx, a, dx, fs, ex, ea, ρ1, m1, xs, M1, rx1, hn, e1, ⟨w, hw⟩, p1⟩ => ?_)
  subst ex
  obtain rfl : u = Value.ref a := rx
  obtain ⟨fd, ps, gs, gV, h1, h2, h3⟩ := F.ex
  subst hw
  obtain ⟨hl, rg⟩ := h3 ρ1 H1 xs [.ref a] [] [] hn rfl rx1 rfl
  obtain ⟨mA, O, _, _, _, _⟩ := ins_get I1.hok ea
  obtain ⟨od, J, _⟩ := O.look
  obtain ⟨rest, hrec⟩ := hp.rec_
  have I1' := I1.tok (s1.toks + 1)
  have hcl : (PySem.W.clsIn X.K (He.ga X.K c)).isSome = true := by
    obtain ⟨cd, hc', _⟩ := PySem.W.any_some hc.hd
    rw [hc']
    rfl
  have rv : Vals [V.ref a] [Value.ref a] := .cons rfl .nil
  have r2 := h2.rel rv (.nil : Vals [] [])
  refine PySem.W.get_bind I1.kIn J (PySem.W.plainGet_of (hc.get fn)).1 (PySem.W.findObj_data hcl hp.at_ hp.get hp.tak) (PySem.W.plainGet_of (hc.get fn)).2 (wpAny_call (PySem.W.prop_get (s := { s1 with toks := s1.toks + 1 }) I1.kIn hrec ?_))
  refine codeAny_mono (h1.run X.A.in1 X.stack { s1 with toks := s1.toks + 1 } H1 ⟨[.ref a], []⟩ (gs [.ref a] []) (gV [.ref a] []) Q (fun _ _ _ => False) hr.in1 I1'.env0.in1 (h2.to _ [.ref a] [] I1'.kIn rfl rfl) r2
    ⟨hl, ρ1, m1, _, _, m', M1, rg, e1, fun ρ' H' M E v rv => p1 ρ' H' M E v rv⟩) fun r s' hq => ?_
  cases r with
  | error er => exact False.elim (passF (X := X) pins σ H1 { s1 with toks := s1.toks + 1 } er s' (I1'.wish _) hq)
  | ok fl =>
    cases fl with
    | ret u =>
      obtain ⟨v, H', I3, rv, q3⟩ := I1'.after hq
      show wpAny _ _ (handedOut u) _ _ _
      rw [PySem.W.handedOut_of (handed_of rv)]
      exact wpAny_pure ⟨v, H', I3, rv, q3⟩
    | next => exact False.elim hq
    | brk => exact False.elim hq
    | cont => exact False.elim hq⟩⟩
/-! ### names of the module, constants of classes -/
theorem se_glo (hg : Gl X x) (hm : X.mg x = some (.ref (He.ga X.K c))) (hd : (x == ("__debug__" : Str)) = false := by decide) : SE X (.Name x pos) (dC (.glo c)) := se_of (pe_glob (v := .ref (He.ga X.K c)) hg hm rfl hd) fun _ _ => rfl
theorem se_glob {v : V} {u : Value} {y : Vl} (hg : Gl X x) (hm : X.mg x = some u) (r : RelV v u) (ry : ∀ ρ H, RV X.K ρ H y v) (hd : (x == ("__debug__" : Str)) = false := by decide) : SE X (.Name x pos) (dC y) := se_of (pe_glob hg hm r hd) ry
theorem se_ty {n : String} (hg : Gl X x) (hm : X.mg x = none) (hv : bootBuiltins x = some (.type n)) (hn : x ≠ "__name__" := by decide) (hd : (x == ("__debug__" : Str)) = false := by decide) : SE X (.Name x pos) (dC (.ty n)) := se_of (pe_bltn hg hm hv (v := .ty n) rfl hn hd) fun _ _ => rfl
end
end Z
namespace Z
open PySem PySem.Spec PyProof.Rows L2
/-! ### what is walked -/
/-- the walk J hands out the values xs, whatever is done beside -/
def ItOk (K : PySem.W.Frag) (J : It) (ρ0 : Lay) (H0 : Hp) (xs : List Vl) : Prop := ∀ (i : Nat) (ρ : Lay) (m : Mem) (H : Hp), Ext ρ0 H0 ρ H → RM K ρ m H →
  (∀ x, xs[i]? = some x → J.go i H ∧ ∀ v H', J.yld i H v H' → RM K ρ m H' ∧ Ext ρ H ρ H' ∧ RV K ρ H' x v) ∧ (xs.length ≤ i → J.stop i H)
def rdI (K : PySem.W.Frag) (W : WX) (d : DA) : TI := fun σ H R => ∃ ρ env m r m', S K ρ env m σ H ∧ d env m = some (r, m') ∧ ∀ ρ' H', RM K ρ' m' H' → Ext ρ H ρ' H' → match r with
  | .ok xs => ∀ J, ItOk K J ρ' H' xs → R J H'
  | .ex c fs => ∀ dd, XD K ρ' H' dd fs → W (.ref (He.ga K c)) dd σ H'
structure SI (X : Cx) (tg iter : Expr) (d : DA) : Prop where
  run : ∀ W, Takes X W → PI X tg iter (rdI X.K W d)
theorem impPI {X : Cx} {tg iter : Expr} {t t' : TI} (h : PI X tg iter t) (q : ∀ σ H R, t' σ H R → t σ H R) : PI X tg iter t' := ⟨fun pins s σ H R I x => h.run pins s σ H R I (q σ H R x)⟩
section
variable {K : PySem.W.Frag} {ρ0 : Lay} {H0 : Hp} {xs ys : List Vl} {vs us : List V} {a b : Addr}
theorem itOk_list (h : ∀ ρ H, Ext ρ0 H0 ρ H → SqL K H a vs) (r : RVs K ρ0 H0 xs vs) : ItOk K (Itl K a) ρ0 H0 xs := fun i ρ m H E M => by
  refine ⟨fun x hx => ?_, fun hl => ⟨vs, h ρ H E, by rw [← r.length]; exact hl⟩⟩
  obtain ⟨v, h1, h2⟩ := r.get hx
  refine ⟨⟨vs, v, h ρ H E, h1⟩, fun w H' q => ?_⟩
  obtain ⟨rfl, q2⟩ := q
  have := q2 vs (h ρ _ E)
  rw [h1] at this
  cases this
  exact ⟨M, .refl, h2.mono E⟩
theorem itOk_tup (h : ∀ ρ H, Ext ρ0 H0 ρ H → SqT K H a vs) (r : RVs K ρ0 H0 xs vs) : ItOk K (Itt K a) ρ0 H0 xs := fun i ρ m H E M => by
  refine ⟨fun x hx => ?_, fun hl => ⟨vs, h ρ H E, by rw [← r.length]; exact hl⟩⟩
  obtain ⟨v, h1, h2⟩ := r.get hx
  refine ⟨⟨vs, v, h ρ H E, h1⟩, fun w H' q => ?_⟩
  obtain ⟨rfl, q2⟩ := q
  have := q2 vs (h ρ _ E)
  rw [h1] at this
  cases this
  exact ⟨M, .refl, h2.mono E⟩
def intsZ (lo : Int) (n : Nat) : List Vl := (List.range n).map fun i => .int (lo + (i : Nat))
theorem intsZ_get {lo : Int} {n i : Nat} {x : Vl} (h : (intsZ lo n)[i]? = some x) : i < n ∧ x = .int (lo + (i : Nat)) := by
  unfold intsZ at h
  rw [List.getElem?_map] at h
  cases q : (List.range n)[i]? with
  | none =>
    rw [q] at h
    cases h
  | some j =>
    rw [q] at h
    obtain ⟨h1, h2⟩ := List.getElem?_eq_some_iff.mp q
    rw [List.getElem_range] at h2
    rw [List.length_range] at h1
    subst h2
    cases h
    exact ⟨h1, rfl⟩
theorem itOk_range {lo : Int} {n : Nat} : ItOk K (Itr lo n) ρ0 H0 (intsZ lo n) := fun i ρ m H E M => by
  refine ⟨fun x hx => ?_, fun hl => ?_⟩
  · obtain ⟨h1, rfl⟩ := intsZ_get hx
    refine ⟨h1, fun w H' q => ?_⟩
    obtain ⟨rfl, rfl⟩ := q
    exact ⟨M, .refl, rfl⟩
  · unfold intsZ at hl
    rw [List.length_map, List.length_range] at hl
    exact hl
def enumZ (xs : List Vl) : List Vl := (List.range xs.length).zipWith (fun i x => .tup [.int (i : Nat), x]) xs
theorem enumZ_get {i : Nat} {y : Vl} (h : (enumZ xs)[i]? = some y) : ∃ x, xs[i]? = some x ∧ y = .tup [.int (i : Nat), x] := by
  unfold enumZ at h
  rw [List.getElem?_zipWith] at h
  cases q : xs[i]? with
  | none =>
    rw [q] at h
    cases q2 : (List.range xs.length)[i]? <;> rw [q2] at h <;> cases h
  | some x =>
    have hi := (List.getElem?_eq_some_iff.mp q).1
    rw [q, List.getElem?_range hi] at h
    cases h
    exact ⟨x, rfl, rfl⟩
theorem enumZ_len : (enumZ xs).length = xs.length := by
  unfold enumZ
  simp
theorem itOk_enum (h : ∀ ρ H, Ext ρ0 H0 ρ H → SqL K H a vs) (r : RVs K ρ0 H0 xs vs) : ItOk K (Ite K a) ρ0 H0 (enumZ xs) := fun i ρ m H E M => by
  refine ⟨fun y hy => ?_, fun hl => ⟨vs, h ρ H E, by rw [← r.length, ← enumZ_len (xs := xs)]; exact hl⟩⟩
  obtain ⟨x, hx, rfl⟩ := enumZ_get hy
  obtain ⟨v, h1, h2⟩ := r.get hx
  refine ⟨⟨vs, v, h ρ H E, h1⟩, fun w H' q => ?_⟩
  obtain ⟨T, u, rfl, hT, rfl, q2⟩ := q
  have := q2 vs (h ρ _ E)
  rw [h1] at this
  cases this
  exact ⟨M.laid hT, ext_new hT, new_tup M hT ⟨_, _, rfl, rfl, _, _, rfl, h2.mono E, rfl⟩⟩
def zipZ (xs ys : List Vl) : List Vl := xs.zipWith (fun x y => .tup [x, y]) ys
theorem itOk_zip (h : ∀ ρ H, Ext ρ0 H0 ρ H → SqL K H a vs) (h' : ∀ ρ H, Ext ρ0 H0 ρ H → SqL K H b us) (r : RVs K ρ0 H0 xs vs) (r' : RVs K ρ0 H0 ys us) : ItOk K (Itz K a b) ρ0 H0 (zipZ xs ys) := fun i ρ m H E M => by
  refine ⟨fun z hz => ?_, fun hl => ⟨vs, us, h ρ H E, h' ρ H E, by
    unfold zipZ at hl
    rw [List.length_zipWith, r.length, r'.length] at hl
    omega⟩⟩
  unfold zipZ at hz
  rw [List.getElem?_zipWith] at hz
  cases q1 : xs[i]? with
  | none =>
    rw [q1] at hz
    cases q2 : ys[i]? <;> rw [q2] at hz <;> cases hz
  | some x =>
    rw [q1] at hz
    cases q2 : ys[i]? with
    | none =>
      rw [q2] at hz
      cases hz
    | some y =>
      rw [q2] at hz
      cases hz
      obtain ⟨v, h1, h2⟩ := r.get q1
      obtain ⟨u, h3, h4⟩ := r'.get q2
      refine ⟨⟨vs, us, v, u, h ρ H E, h' ρ H E, h1, h3⟩, fun w H' q => ?_⟩
      obtain ⟨T, v', u', rfl, hT, rfl, q5, q6⟩ := q
      have e1 := q5 vs (h ρ _ E)
      have e2 := q6 us (h' ρ _ E)
      rw [h1] at e1
      rw [h3] at e2
      cases e1
      cases e2
      exact ⟨M.laid hT, ext_new hT, new_tup M hT ⟨_, _, rfl, h2.mono E, _, _, rfl, h4.mono E, rfl⟩⟩
end
/-- lists that stay as they are: read at every later state -/
def staD : Vl → Option (List Vl)
  | .lst xs => some xs
  | .frl xs => some xs
  | _ => none
theorem staD_ok {K : PySem.W.Frag} {ρ : Lay} {H : Hp} {x : Vl} {v : V} {xs : List Vl} (a : RV K ρ H x v) (h : staD x = some xs) : ∃ p vs, v = .ref p ∧ (∀ ρ' H', Ext ρ H ρ' H' → SqL K H' p vs) ∧ RVs K ρ H xs vs := by
  cases x with
  | lst ys =>
    cases h
    obtain ⟨p, vs, rfl, n, h1, h2⟩ := a
    exact ⟨p, vs, rfl, fun ρ' H' E => SqL.of (E.keep p _ h1 n.2), h2⟩
  | frl ys =>
    cases h
    obtain ⟨p, vs, rfl, h1, h2⟩ := a
    exact ⟨p, vs, rfl, fun ρ' H' E => (h1.mono E).sq, h2⟩
  | _ => cases h
section
variable {X : Cx} {tg e : Expr} {es : List Expr} {pos p : Pos} {da db : DE} {d : DA}
def iLst (da : DE) : DA := fun env m => bindR (da env m) fun x m => match staD x with
  | some xs => some (.ok xs, m)
  | none => none
theorem rdI_E {K : PySem.W.Frag} {W : WX} {f : Vl → Mem → Option (R (List Vl) × Mem)} {σ : L2.St} {H : Hp} {R : It → Hp → Prop} {Q : VK} (h : rdI K W (fun env m => bindR (da env m) f) σ H R)
    (k : ∀ x m1 ρ env xs v H1, S K ρ env m1 σ H1 → RV K ρ H1 x v → f x m1 = some (.ok xs, m1) → (∀ J, ItOk K J ρ H1 xs → R J H1) → Q v H1) (hf : ∀ x m r m', f x m = some (r, m') → (∃ xs, r = .ok xs) ∧ m' = m) : rdE K W da σ H Q := by
  obtain ⟨ρ, env, m, r, m', s, e, p⟩ := h
  have e' : bindR (da env m) f = some (r, m') := e
  unfold bindR at e'
  split at e'
  · cases e'
  · rename_i x m1 h0
    obtain ⟨⟨xs, rfl⟩, rfl⟩ := hf x m1 r m' e'
    exact goE s h0 fun ρ' H' v s' E rv => k x _ ρ' env xs v H' s' rv e' fun J hJ => p ρ' H' s'.mem E J hJ
  · rename_i c fs m1 h0
    cases e'
    exact exE s h0 fun ρ' H' dd s' E r => p ρ' H' s'.mem E dd r
theorem rdI_A {K : PySem.W.Frag} {W : WX} {f : List Vl → Mem → Option (R (List Vl) × Mem)} {σ : L2.St} {H : Hp} {R : It → Hp → Prop} {Q : List V → Hp → Prop} (h : rdI K W (fun env m => bindR (d env m) f) σ H R)
    (k : ∀ x m1 ρ env xs v H1, S K ρ env m1 σ H1 → RVs K ρ H1 x v → f x m1 = some (.ok xs, m1) → (∀ J, ItOk K J ρ H1 xs → R J H1) → Q v H1) (hf : ∀ x m r m', f x m = some (r, m') → (∃ xs, r = .ok xs) ∧ m' = m) : rdA K W d σ H Q := by
  obtain ⟨ρ, env, m, r, m', s, e, p⟩ := h
  have e' : bindR (d env m) f = some (r, m') := e
  unfold bindR at e'
  split at e'
  · cases e'
  · rename_i x m1 h0
    obtain ⟨⟨xs, rfl⟩, rfl⟩ := hf x m1 r m' e'
    exact goA s h0 fun ρ' H' v s' E rv => k x _ ρ' env xs v H' s' rv e' fun J hJ => p ρ' H' s'.mem E J hJ
  · rename_i c fs m1 h0
    cases e'
    exact exA s h0 fun ρ' H' dd s' E r => p ρ' H' s'.mem E dd r
theorem si_list (ha : SE X e da) : SI X tg e (iLst da) := ⟨fun W tk => impPI (pi_list (ha.run W tk)) fun σ H R h =>
  rdI_E (Q := fun x H1 => ∃ a, x = .ref a ∧ (∃ xs, SqL X.K H1 a xs) ∧ R (Itl X.K a) H1) h (fun x m1 ρ env xs v H1 s r e k => by
    split at e
    · rename_i ys hy
      cases e
      obtain ⟨p, vs, rfl, h1, h2⟩ := staD_ok r hy
      exact ⟨p, rfl, ⟨vs, h1 ρ H1 .refl⟩, k _ (itOk_list h1 h2)⟩
    · cases e) fun x m r m' e => by
    split at e
    · cases e
      exact ⟨⟨_, rfl⟩, rfl⟩
    · cases e⟩
def iTupD (da : DE) : DA := fun env m => bindR (da env m) fun x m => match x with
  | .tup xs => some (.ok xs, m)
  | _ => none
theorem si_tup (ha : SE X e da) : SI X tg e (iTupD da) := ⟨fun W tk => impPI (pi_tup (ha.run W tk)) fun σ H R h =>
  rdI_E (Q := fun x H1 => ∃ a, x = .ref a ∧ (∃ xs, SqT X.K H1 a xs) ∧ R (Itt X.K a) H1) h (fun x m1 ρ env xs v H1 s r e k => by
    split at e
    · cases e
      obtain ⟨p, vs, rfl, h1, h2⟩ := r
      exact ⟨p, rfl, ⟨vs, h1.sq⟩, k _ (itOk_tup (fun ρ' H' E => (h1.mono E).sq) h2)⟩
    · cases e) fun x m r m' e => by
    split at e
    · cases e
      exact ⟨⟨_, rfl⟩, rfl⟩
    · cases e⟩
/-- a list or a tuple -/
theorem PI.or {t t' : TI} (h : PI X tg e t) (h' : PI X tg e t') : PI X tg e (fun σ H R => t σ H R ∨ t' σ H R) := ⟨fun pins s σ H R I x => x.elim (fun x => h.run pins s σ H R I x) fun x => h'.run pins s σ H R I x⟩
def iSeqD (da : DE) : DA := fun env m => match da env m with
  | some (.ok (.tup xs), m) => some (.ok xs, m)
  | some (.ok x, m) => (match staD x with
    | some xs => some (.ok xs, m)
    | none => none)
  | some (.ex c fs, m) => some (.ex c fs, m)
  | none => none
theorem si_seq (ha : SE X e da) : SI X tg e (iSeqD da) := ⟨fun W tk => impPI (PI.or (pi_list (ha.run W tk)) (pi_tup (ha.run W tk))) fun σ H R ⟨ρ, env, m, r, m', s, e, p⟩ => by
  unfold iSeqD at e
  split at e
  · rename_i xs m1 h0
    cases e
    refine .inr (goE s h0 fun ρ' H' v s' E rv => ?_)
    obtain ⟨q, vs, rfl, h1, h2⟩ := rv
    exact ⟨q, rfl, ⟨vs, h1.sq⟩, p ρ' H' s'.mem E _ (itOk_tup (fun ρ' H' E => (h1.mono E).sq) h2)⟩
  · rename_i x m1 hne h0
    split at e
    · rename_i ys hy
      cases e
      refine .inl (goE s h0 fun ρ' H' v s' E rv => ?_)
      obtain ⟨q, vs, rfl, h1, h2⟩ := staD_ok rv hy
      exact ⟨q, rfl, ⟨vs, h1 ρ' H' .refl⟩, p ρ' H' s'.mem E _ (itOk_list h1 h2)⟩
    · cases e
  · rename_i c fs m1 h0
    cases e
    exact .inl (exE s h0 fun ρ' H' dd s' E r => p ρ' H' s'.mem E dd r)
  · cases e⟩
def rng1 (xs : List Vl) : Option (List Vl) := match xs with
  | [.int j] => if (decide (-(2 ^ 62) ≤ j) && decide (j < 2 ^ 62)) = true then some (intsZ 0 j.toNat) else none
  | _ => none
def iRg1 (d : DA) : DA := fun env m => bindR (d env m) fun xs m => match rng1 xs with
  | some ys => some (.ok ys, m)
  | none => none
theorem si_range1 {a : Expr} (hg : Gl X "range") (hm : X.mg "range" = none) (ha : SA X [a] d) (hs : starEach [a] X.env = [(false, eval a X.env)] := by rfl) : SI X tg (.Call (.Name "range" p) [a] [] pos) (iRg1 d) := ⟨fun W tk => impPI (pi_range1 hg hm (ha.run W tk) hs) fun σ H R h =>
  rdI_A (Q := fun vs H1 => ∃ j : Int, vs = [.int j] ∧ -(2 ^ 62) ≤ j ∧ j < 2 ^ 62 ∧ R (Itr 0 j.toNat) H1) h (fun x m1 ρ env xs v H1 s r e k => by
    split at e
    · rename_i ys hy
      cases e
      unfold rng1 at hy
      split at hy
      · rename_i j
        split at hy
        · rename_i c
          cases hy
          rw [Bool.and_eq_true, decide_eq_true_eq, decide_eq_true_eq] at c
          obtain ⟨w, vs, rfl, r1, r2⟩ := r
          subst r2
          exact ⟨j, by rw [show w = V.int j from r1], c.1, c.2, k _ itOk_range⟩
        · cases hy
      · cases hy
    · cases e) fun x m r m' e => by
    split at e
    · cases e
      exact ⟨⟨_, rfl⟩, rfl⟩
    · cases e⟩
def rng2 (xs : List Vl) : Option (List Vl) := match xs with
  | [.int i, .int j] => if (decide (-(2 ^ 62) ≤ i) && (decide (i < 2 ^ 62) && (decide (-(2 ^ 62) ≤ j) && decide (j < 2 ^ 62)))) = true then some (intsZ i (j - i).toNat) else none
  | _ => none
def iRg2 (d : DA) : DA := fun env m => bindR (d env m) fun xs m => match rng2 xs with
  | some ys => some (.ok ys, m)
  | none => none
theorem si_range2 {a b : Expr} (hg : Gl X "range") (hm : X.mg "range" = none) (ha : SA X [a, b] d) (hs : starEach [a, b] X.env = [(false, eval a X.env), (false, eval b X.env)] := by rfl) (hs2 : starEach [b] X.env = [(false, eval b X.env)] := by rfl) :
    SI X tg (.Call (.Name "range" p) [a, b] [] pos) (iRg2 d) := ⟨fun W tk => impPI (pi_range2 hg hm (ha.run W tk) hs hs2) fun σ H R h =>
  rdI_A (Q := fun vs H1 => ∃ i j : Int, vs = [.int i, .int j] ∧ (-(2 ^ 62) ≤ i ∧ i < 2 ^ 62 ∧ -(2 ^ 62) ≤ j ∧ j < 2 ^ 62) ∧ R (Itr i (j - i).toNat) H1) h (fun x m1 ρ env xs v H1 s r e k => by
    split at e
    · rename_i ys hy
      cases e
      unfold rng2 at hy
      split at hy
      · rename_i i j
        split at hy
        · rename_i c
          cases hy
          simp only [Bool.and_eq_true, decide_eq_true_eq] at c
          obtain ⟨w, vs, rfl, r1, w2, vs2, rfl, r2, r3⟩ := r
          subst r3
          exact ⟨i, j, by rw [show w = V.int i from r1, show w2 = V.int j from r2], c, k _ itOk_range⟩
        · cases hy
      · cases hy
    · cases e) fun x m r m' e => by
    split at e
    · cases e
      exact ⟨⟨_, rfl⟩, rfl⟩
    · cases e⟩
def iEnm (d : DA) : DA := fun env m => bindR (d env m) fun xs m => match xs with
  | [x] => (match staD x with
    | some ys => some (.ok (enumZ ys), m)
    | none => none)
  | _ => none
theorem si_enum {elts : List Expr} {kk : Nat} {tpos : Pos} (hg : Gl X "enumerate") (hm : X.mg "enumerate" = none) (ha : SA X [e] d) (hs : starEach [e] X.env = [(false, eval e X.env)] := by rfl) :
    SI X (.Tuple elts kk tpos) (.Call (.Name "enumerate" p) [e] [] pos) (iEnm d) := ⟨fun W tk => impPI (pi_enum hg hm (ha.run W tk) hs) fun σ H R h =>
  rdI_A (Q := fun vs H1 => ∃ a xs, vs = [.ref a] ∧ SqL X.K H1 a xs ∧ R (Ite X.K a) H1) h (fun x m1 ρ env xs v H1 s r e k => by
    split at e
    · rename_i y
      split at e
      · rename_i ys hy
        cases e
        obtain ⟨w, vs, rfl, r1, r2⟩ := r
        subst r2
        obtain ⟨q, vs, rfl, h1, h2⟩ := staD_ok r1 hy
        exact ⟨q, vs, rfl, h1 ρ H1 .refl, k _ (itOk_enum h1 h2)⟩
      · cases e
    · cases e) fun x m r m' e => by
    split at e
    · split at e
      · cases e
        exact ⟨⟨_, rfl⟩, rfl⟩
      · cases e
    · cases e⟩
def iZp (d : DA) : DA := fun env m => bindR (d env m) fun xs m => match xs with
  | [x, y] => (match staD x, staD y with
    | some xs, some ys => some (.ok (zipZ xs ys), m)
    | _, _ => none)
  | _ => none
theorem si_zip {e2 : Expr} {elts : List Expr} {kk : Nat} {tpos : Pos} (hg : Gl X "zip") (hm : X.mg "zip" = none) (ha : SA X [e, e2] d)
    (hs : starEach [e, e2] X.env = (false, eval e X.env) :: starEach [e2] X.env := by rfl) (hpl : (backTo pos (starEach [e2] X.env)).any (·.1) = false := by rfl) :
    SI X (.Tuple elts kk tpos) (.Call (.Name "zip" p) [e, e2] [] pos) (iZp d) := ⟨fun W tk => impPI (pi_zip hg hm (ha.run W tk) hs hpl) fun σ H R h =>
  rdI_A (Q := fun vs H1 => ∃ a b xs ys, vs = [.ref a, .ref b] ∧ SqL X.K H1 a xs ∧ SqL X.K H1 b ys ∧ R (Itz X.K a b) H1) h (fun x m1 ρ env xs v H1 s r e k => by
    split at e
    · rename_i y z
      split at e
      · rename_i ys zs hy hz
        cases e
        obtain ⟨w, vs, rfl, r1, w2, vs2, rfl, r2, r3⟩ := r
        subst r3
        obtain ⟨q, vs, rfl, h1, h2⟩ := staD_ok r1 hy
        obtain ⟨q2, vs2, rfl, h3, h4⟩ := staD_ok r2 hz
        exact ⟨q, q2, vs, vs2, rfl, h1 ρ H1 .refl, h3 ρ H1 .refl, k _ (itOk_zip h1 h3 h2 h4)⟩
      · cases e
    · cases e) fun x m r m' e => by
    split at e
    · split at e
      · cases e
        exact ⟨⟨_, rfl⟩, rfl⟩
      · cases e
    · cases e⟩
def chrs (x : Str) : List Vl := x.cps.toList.map fun c => .str ⟨#[c]⟩
def iStrD (da : DE) : DA := fun env m => bindR (da env m) fun x m => match x with
  | .str z => some (.ok (chrs z), m)
  | _ => none
theorem si_str (ha : SE X e da) : SI X tg e (iStrD da) := ⟨fun W tk => impPI (pi_str (ha.run W tk)) fun σ H R h =>
  rdI_E (Q := fun v H1 => ∃ x, v = .str x ∧ R (Its x) H1) h (fun x m1 ρ env xs v H1 s r e k => by
    split at e
    · rename_i z
      cases e
      refine ⟨z, r, k _ fun i ρ' m' H' E M => ⟨fun y hy => ?_, fun hl => ?_⟩⟩
      · unfold chrs at hy
        rw [List.getElem?_map] at hy
        cases q : z.cps.toList[i]? with
        | none =>
          rw [q] at hy
          cases hy
        | some c =>
          rw [q] at hy
          cases hy
          have q' : z.cps[i]? = some c := by rw [← Array.getElem?_toList]; exact q
          refine ⟨(Array.getElem?_eq_some_iff.mp q').1, fun w H2 h2 => ?_⟩
          obtain ⟨rfl, c', h3, rfl⟩ := h2
          rw [q'] at h3
          cases h3
          exact ⟨M, .refl, rfl⟩
      · unfold chrs at hl
        show z.cps.size ≤ i
        simpa using hl
    · cases e) fun x m r m' e => by
    split at e
    · cases e
      exact ⟨⟨_, rfl⟩, rfl⟩
    · cases e⟩
/-! ### for -/
def forL (g : DG) (body : DS) : List Vl → Ev → Mem → Option (Fl × Mem)
  | [], env, m => some (.nx env, m)
  | x :: xs, env, m => match g x env m with
    | some (env1, m1) => (match body env1 m1 with
      | some (.nx env2, m2) => forL g body xs env2 m2
      | some (.ct env2, m2) => forL g body xs env2 m2
      | some (.bk env2, m2) => some (.nx env2, m2)
      | r => r)
    | none => none
def dFor (d : DA) (g : DG) (body : DS) : DS := fun env m => bindS (d env m) env fun xs m => forL g body xs env m
theorem ss_for {body : List Stmt} {g : DG} {db : DS} (hp : PassesOwn (model X.prog X.w) X.A X.env X.xe) (hc : X.calm = true) (hi : SI X tg e d) (hg : SG X tg g) (hb : SSs X body db)
    (hs : ∀ x, foldedSetIterable e X.env x = pure x := by intro _; rfl) : SS X (.For tg e body [] pos) (dFor d g db) := ⟨fun W tk =>
  impPS (ps_for hp hc (hi.run W tk) (hg.run W tk) (hb.run W tk) hs) fun D σ H ⟨ρ, env, m, f, m', s, e, p⟩ => by
    unfold dFor bindS at e
    split at e
    · cases e
    · rename_i xs m1 h0
      refine ⟨ρ, env, m, _, _, s, h0, fun ρ1 H1 M1 E1 J hJ => ?_⟩
      refine ⟨fun i k σ' H' => k + i = xs.length ∧ ∃ ρ' env' m2, S X.K ρ' env' m2 σ' H' ∧ Ext ρ1 H1 ρ' H' ∧ forL g db (xs.drop i) env' m2 = some (f, m'), ⟨xs.length, rfl, ρ1, env, m1, ⟨M1, s.env.mono E1⟩, .refl, e⟩, fun i k σ' H' ⟨hk, ρ', env', m2, s', E', e'⟩ => ?_⟩
      obtain ⟨j1, j2⟩ := hJ i ρ' m2 H' E' s'.mem
      cases k with
      | zero =>
        refine .inl ⟨j2 (by omega), ?_⟩
        rw [List.drop_of_length_le (by omega)] at e'
        cases e'
        exact p ρ' H' s'.mem (E1.trans E') σ' s'.env
      | succ k =>
        have hi : i < xs.length := by omega
        obtain ⟨j3, j4⟩ := j1 xs[i] (by simp [hi])
        refine .inr ⟨j3, fun σ2 H2 => k + (i + 1) = xs.length ∧ ∃ ρ' env' m2, S X.K ρ' env' m2 σ2 H2 ∧ Ext ρ1 H1 ρ' H2 ∧ forL g db (xs.drop (i + 1)) env' m2 = some (f, m'), fun σ2 H2 h2 => ⟨k, Nat.lt_succ_self k, h2⟩, fun v H2 hy => ?_⟩
        obtain ⟨M2, E2, r2⟩ := j4 v H2 hy
        rw [List.drop_eq_getElem_cons hi] at e'
        unfold forL at e'
        split at e'
        · rename_i env1 m3 hg'
          refine ⟨ρ', env', m2, xs[i], env1, m3, s'.to E2 M2, r2, hg', fun ρ3 H3 σ3 s3 E3 => ?_⟩
          have E4 := (E'.trans E2).trans E3
          split at e'
          · rename_i env2 m4 hb'
            exact ⟨ρ3, env1, m3, _, _, s3, hb', fun ρ4 H4 M4 E5 σ4 r4 => ⟨by omega, ρ4, env2, m4, ⟨M4, r4⟩, E4.trans E5, e'⟩⟩
          · rename_i env2 m4 hb'
            exact ⟨ρ3, env1, m3, _, _, s3, hb', fun ρ4 H4 M4 E5 σ4 r4 => ⟨by omega, ρ4, env2, m4, ⟨M4, r4⟩, E4.trans E5, e'⟩⟩
          · rename_i env2 m4 hb'
            cases e'
            exact ⟨ρ3, env1, m3, _, _, s3, hb', fun ρ4 H4 M4 E5 σ4 r4 => p ρ4 H4 M4 (E1.trans (E4.trans E5)) σ4 r4⟩
          · rename_i r0 n1 n2 n3
            refine ⟨ρ3, env1, m3, f, m', s3, e', fun ρ4 H4 M4 E5 => ?_⟩
            have pp := p ρ4 H4 M4 (E1.trans (E4.trans E5))
            cases f with
            | rt v => exact pp
            | ex c fs env2 => exact pp
            | nx env2 => exact absurd e' (n1 env2 m')
            | ct env2 => exact absurd e' (n2 env2 m')
            | bk env2 => exact absurd e' (n3 env2 m')
        · cases e'
    · rename_i c fs m1 h0
      cases e
      exact ⟨ρ, env, m, _, _, s, h0, fun ρ' H' M E dd x => p ρ' H' M E σ (s.env.mono E) dd x⟩⟩
end
end Z
namespace Z
open PySem PySem.Spec PyProof.Rows L2
/-! ### list comprehensions -/
theorem takesF {X : Cx} : Takes X (fun _ _ _ _ => False) := fun u s' ⟨_, _, _, _, _, _, _, _, _, _, _, _, _, _, _, _, q⟩ => q.elim
def wipeE (env : Ev) : List Nat → Ev
  | [] => env
  | v :: vs => (wipeE env vs).set v none
theorem RE.wipe {K : PySem.W.Frag} {ρ : Lay} {H : Hp} {env : Ev} {σ : L2.St} (h : RE K ρ H env σ) : ∀ vs : List Nat, RE K ρ H (wipeE env vs) (L2.wipe σ vs)
  | [] => h
  | _ :: vs => (RE.wipe h vs).unset
theorem wipe_set {σ : L2.St} {i : Nat} {o : Option V} : ∀ {vs : List Nat}, i ∈ vs → L2.wipe (σ.set i o) vs = L2.wipe σ vs
  | [], h => by simp at h
  | v :: vs, h => by
    unfold L2.wipe
    by_cases q : i ∈ vs
    · rw [wipe_set q]
    · have e : i = v := by
        rcases List.mem_cons.mp h with e | e
        · exact e
        · exact absurd e q
      subst e
      have key : ∀ (ws : List Nat), i ∉ ws → L2.wipe (σ.set i o) ws = (L2.wipe σ ws).set i o := by
        intro ws
        induction ws with
        | nil => intro _; rfl
        | cons w ws ih =>
          intro hn
          simp only [List.mem_cons, not_or] at hn
          unfold L2.wipe
          rw [ih hn.2, List.set_comm _ _ hn.1]
      rw [key vs q, List.set_set]
theorem wipe_wipe {σ : L2.St} : ∀ {vs ws : List Nat}, (∀ i ∈ vs, i ∈ ws) → L2.wipe (L2.wipe σ vs) ws = L2.wipe σ ws
  | [], _, _ => rfl
  | v :: vs, ws, h => by
    show L2.wipe ((L2.wipe σ vs).set v none) ws = _
    rw [wipe_set (h v List.mem_cons_self), wipe_wipe fun i hi => h i (List.mem_cons_of_mem _ hi)]
/-- targets of a block's own names, at the slots vs -/
abbrev DGc := Vl → Ev → Option Ev
def rdGc (K : PySem.W.Frag) (d : DGc) (vs : List Nat) : TG := fun v σ H Q => ∃ ρ env m x env', S K ρ env m σ H ∧ RV K ρ H x v ∧ d x env = some env' ∧ ∀ σ', S K ρ env' m σ' H → L2.wipe σ' vs = L2.wipe σ vs → Q σ' H
structure SGc (X : Cx) (t : Expr) (d : DGc) (vs : List Nat) : Prop where
  run : PG X t (rdGc X.K d vs)
def rdGcs (K : PySem.W.Frag) (d : List Vl → Ev → Option Ev) (vs : List Nat) : TGs := fun us σ H Q => ∃ ρ env m xs env', S K ρ env m σ H ∧ RVs K ρ H xs us ∧ d xs env = some env' ∧ ∀ σ', S K ρ env' m σ' H → L2.wipe σ' vs = L2.wipe σ vs → Q σ' H
structure SGcs (X : Cx) (ts : List Expr) (d : List Vl → Ev → Option Ev) (vs : List Nat) : Prop where
  run : PGs X ts (rdGcs X.K d vs)
section
variable {X : Cx} {pos : Pos} {vs : List Nat}
def gcVar (i : Nat) : DGc := fun x env => some (env.set i (some x))
theorem sgc_name {i : Nat} {x : Str} (hN : X.N.Nodup) (hi : X.N[i]? = some x) (hx : Loc X.env.scope x) (hv : i ∈ vs := by decide) (hf : X.fn x = true ∨ X.env.scope.names.lookup x = some .local := by first | exact .inl rfl | exact .inr rfl | assumption) : SGc X (.Name x pos) (gcVar i) vs :=
  ⟨impPG (pg_name hN hi hx hf) fun v σ H Q ⟨ρ, env, m, x, env', s, r, e, p⟩ => by
    cases e
    exact p _ ⟨s.mem, s.env.set r⟩ (wipe_set hv)⟩
def gcsNil : List Vl → Ev → Option Ev := fun xs env => match xs with
  | [] => some env
  | _ => none
def gcsCons (d : DGc) (ds : List Vl → Ev → Option Ev) : List Vl → Ev → Option Ev := fun xs env => match xs with
  | x :: r => (match d x env with
    | some env1 => ds r env1
    | none => none)
  | [] => none
theorem sgcs_nil : SGcs X [] gcsNil vs := ⟨impPGs pgs_nil fun v σ H Q ⟨ρ, env, m, xs, env', s, r, e, p⟩ => by
  cases xs with
  | nil =>
    cases e
    exact ⟨r, p _ s rfl⟩
  | cons x xs => cases e⟩
theorem sgcs_cons {t : Expr} {ts : List Expr} {dg : DGc} {ds : List Vl → Ev → Option Ev} (h1 : SGc X t dg vs) (h2 : SGcs X ts ds vs)
    (hs : (assignEach (t :: ts) X.env).map (·.2) = assign t X.env :: (assignEach ts X.env).map (·.2) := by rfl) : SGcs X (t :: ts) (gcsCons dg ds) vs := ⟨impPGs (pgs_cons h1.run h2.run hs) fun v σ H Q ⟨ρ, env, m, xs, env', s, r, e, p⟩ => by
  cases xs with
  | nil => cases e
  | cons x xs =>
    obtain ⟨v, us, rfl, r1, r2⟩ := r
    cases h : dg x env with
    | none =>
      simp only [gcsCons, h] at e
      cases e
    | some env1 =>
      simp only [gcsCons, h] at e
      exact ⟨v, us, rfl, ρ, env, m, x, env1, s, r1, h, fun σ' s' w' => ⟨ρ, env1, m, xs, env', s', r2, e, fun σ2 s2 w2 => p σ2 s2 (w2.trans w')⟩⟩⟩
def gcTup (ds : List Vl → Ev → Option Ev) : DGc := fun x env => match x with
  | .tup xs => ds xs env
  | _ => none
def GcsLen (ds : List Vl → Ev → Option Ev) (n : Nat) : Prop := ∀ xs env r, ds xs env = some r → xs.length = n
theorem gcl_nil : GcsLen gcsNil 0 := fun xs env r h => by
  cases xs with
  | nil => rfl
  | cons x xs => cases h
theorem gcl_cons {dg : DGc} {ds : List Vl → Ev → Option Ev} {n : Nat} (h : GcsLen ds n) : GcsLen (gcsCons dg ds) (n + 1) := fun xs env r e => by
  cases xs with
  | nil => cases e
  | cons x xs =>
    cases q : dg x env with
    | none =>
      simp only [gcsCons, q] at e
      cases e
    | some z =>
      simp only [gcsCons, q] at e
      rw [List.length_cons, h _ _ _ e]
theorem sgc_tup {es : List Expr} {k n : Nat} {ds : List Vl → Ev → Option Ev} (hc : X.calm = true) (h : SGcs X es ds vs) (hl : GcsLen ds n)
    (hn : (assignEach es X.env).length = n := by rfl) (hst : (assignEach es X.env).findIdx? (·.1) = none := by rfl) : SGc X (.Tuple es k pos) (gcTup ds) vs := ⟨impPG (pg_tup hc h.run hn hst) fun v σ H Q ⟨ρ, env, m, x, env', s, r, e, p⟩ => by
  unfold gcTup at e
  split at e
  · rename_i xs
    obtain ⟨a, us, rfl, h2, h3⟩ := r
    exact ⟨a, us, rfl, h2.sq, by rw [← h3.length]; exact hl _ _ _ e, ρ, env, m, xs, env', s, h3, e, p⟩
  · cases e⟩
/-- the tests of a comprehension -/
structure STs (X : Cx) (ifs : List Expr) (d : DT) : Prop where
  run : ∀ W, Takes X W → PTs X ifs (rdT X.K W d)
def dYes : DT := fun _ m => some (.ok true, m)
theorem impPTs {ifs : List Expr} {t t' : TT} (h : PTs X ifs t) (q : ∀ σ H Q, t' σ H Q → t σ H Q) : PTs X ifs t' := ⟨fun pins s σ H Q I x => h.run pins s σ H Q I (q σ H Q x)⟩
theorem sts_nil : STs X [] dYes := ⟨fun W tk => impPTs pts_nil fun σ H Q ⟨ρ, env, m, z, m', s, e, p⟩ => by
  cases e
  exact p ρ H s.mem .refl true rfl⟩
theorem sts_one {e : Expr} {dt : DT} (h : ST X e dt) : STs X [e] dt := ⟨fun W tk => pts_one (h.run W tk)⟩
/-! a list that nobody knows is changed -/
theorem ne_mem {l : List Addr} {a p : Addr} (h : a ∈ l) (n : p ∉ l) : a ≠ p := fun e => n (by rw [← e]; exact h)
section
variable {K : PySem.W.Frag} {ρ : Lay} {H : Hp} {p : Addr} {us ws : List V}
mutual
theorem RV.priv (nc : p ∉ ρ.c) (nz : p ∉ ρ.z) (hp : H p = some (.lst us)) : ∀ (x : Vl) {v : V}, RV K ρ H x v → RV K ρ (upd H p (.lst ws)) x v
  | .non, _, h => h
  | .bl _, _, h => h
  | .int _, _, h => h
  | .str _, _, h => h
  | .ty _, _, h => h
  | .glo _, _, h => h
  | .tup xs, _, ⟨a, vs, h1, h2, h3⟩ => ⟨a, vs, h1, h2.elim (fun h => .inl ⟨h.1, by
      have ne : ∀ {u : HO}, H a = some u → (∀ zs, u ≠ .lst zs) → upd H p (.lst ws) a = some u := fun {u} e hu => by
        rw [upd_ne (fun q => by subst q; rw [hp] at e; cases e; exact hu _ rfl)]
        exact e
      rcases h.2 with h | ⟨o, h⟩
      · exact .inl (ne h fun _ q => nomatch q)
      · exact .inr ⟨o, ne h fun _ q => nomatch q⟩⟩) .inr, RVs.priv nc nz hp xs h3⟩
  | .lst xs, _, ⟨a, vs, h1, n, h2, h3⟩ => ⟨a, vs, h1, n, by rw [upd_ne (ne_mem n.1 nz)]; exact h2, RVs.priv nc nz hp xs h3⟩
  | .frl xs, _, ⟨a, vs, h1, h2, h3⟩ => ⟨a, vs, h1, h2.elim (fun h => .inl ⟨h.1, by
      obtain ⟨o, h⟩ := h.2
      refine ⟨o, ?_⟩
      rw [upd_ne (fun q => by subst q; rw [hp] at h; cases h)]
      exact h⟩) .inr, RVs.priv nc nz hp xs h3⟩
  | .dic xs, _, ⟨a, vs, h1, n, h2, h3⟩ => ⟨a, vs, h1, n, by rw [upd_ne (ne_mem n.1 nz)]; exact h2, RKs.priv nc nz hp xs h3⟩
  | .dit xs, _, ⟨a, vs, h1, n, h2, h3⟩ => ⟨a, vs, h1, n, by rw [upd_ne (ne_mem n.1 nz)]; exact h2, RTs.priv nc nz hp xs h3⟩
  | .ins c fs, _, ⟨a, dx, gs, h1, n, h2, h3⟩ => ⟨a, dx, gs, h1, n, by rw [upd_ne (ne_mem n.1 nz)]; exact h2, RFs.priv nc nz hp fs h3⟩
  | .obj n, _, h => h
  | .err _ fs, _, ⟨a, d, gs, h1, n, h2, h3, h4⟩ => ⟨a, d, gs, h1, n, by rw [upd_ne (fun q => by subst q; rw [hp] at h2; cases h2)]; exact h2, h3.elim (fun ⟨dd, q1, q2, q3⟩ => .inl ⟨dd, q1, q2, by rw [upd_ne (fun q => by subst q; rw [hp] at q3; cases q3)]; exact q3⟩) .inr, RFs.priv nc nz hp fs h4⟩
theorem RVs.priv (nc : p ∉ ρ.c) (nz : p ∉ ρ.z) (hp : H p = some (.lst us)) : ∀ (xs : List Vl) {vs : List V}, RVs K ρ H xs vs → RVs K ρ (upd H p (.lst ws)) xs vs
  | [], _, h => h
  | x :: xs, _, ⟨v, r, h1, h2, h3⟩ => ⟨v, r, h1, RV.priv nc nz hp x h2, RVs.priv nc nz hp xs h3⟩
theorem RKs.priv (nc : p ∉ ρ.c) (nz : p ∉ ρ.z) (hp : H p = some (.lst us)) : ∀ (xs : List (Key × Vl)) {vs : List (Key × V)}, RKs K ρ H xs vs → RKs K ρ (upd H p (.lst ws)) xs vs
  | [], _, h => h
  | (k, x) :: xs, _, ⟨v, r, h1, h2, h3⟩ => ⟨v, r, h1, RV.priv nc nz hp x h2, RKs.priv nc nz hp xs h3⟩
theorem RTs.priv (nc : p ∉ ρ.c) (nz : p ∉ ρ.z) (hp : H p = some (.lst us)) : ∀ (xs : List (List Key × Vl)) {vs : List (List Key × V)}, RTs K ρ H xs vs → RTs K ρ (upd H p (.lst ws)) xs vs
  | [], _, h => h
  | (k, x) :: xs, _, ⟨v, r, h1, h2, h3⟩ => ⟨v, r, h1, RV.priv nc nz hp x h2, RTs.priv nc nz hp xs h3⟩
theorem RFs.priv (nc : p ∉ ρ.c) (nz : p ∉ ρ.z) (hp : H p = some (.lst us)) : ∀ (xs : List (Str × Vl)) {vs : List (Str × V)}, RFs K ρ H xs vs → RFs K ρ (upd H p (.lst ws)) xs vs
  | [], _, h => h
  | (k, x) :: xs, _, ⟨v, r, h1, h2, h3⟩ => ⟨v, r, h1, RV.priv nc nz hp x h2, RFs.priv nc nz hp xs h3⟩
end
theorem RC.priv {a : Addr} (ha : a ∈ ρ.c) (nc : p ∉ ρ.c) (nz : p ∉ ρ.z) (hp : H p = Option.some (.lst us)) : ∀ {c : Cell}, RC K ρ H a c → RC K ρ (upd H p (.lst ws)) a c
  | .lst xs, ⟨vs, h1, h2⟩ => ⟨vs, by rw [upd_ne (ne_mem ha nc)]; exact h1, RVs.priv nc nz hp xs h2⟩
  | .dic xs, ⟨vs, h1, h2⟩ => ⟨vs, by rw [upd_ne (ne_mem ha nc)]; exact h1, RKs.priv nc nz hp xs h2⟩
  | .dit xs, ⟨vs, h1, h2⟩ => ⟨vs, by rw [upd_ne (ne_mem ha nc)]; exact h1, RTs.priv nc nz hp xs h2⟩
  | .ins _ xs, ⟨dx, vs, h1, h2⟩ => ⟨dx, vs, by rw [upd_ne (ne_mem ha nc)]; exact h1, RFs.priv nc nz hp xs h2⟩
theorem S.priv {env : Ev} {m : Mem} {σ : L2.St} (s : S K ρ env m σ H) (nc : p ∉ ρ.c) (nz : p ∉ ρ.z) (hp : H p = some (.lst us)) : S K ρ env m σ (upd H p (.lst ws)) :=
  ⟨⟨s.mem.nd, s.mem.len, fun n c a h1 h2 => (s.mem.at_ n c a h1 h2).priv (List.mem_of_getElem? h2) nc nz hp, fun a ha => ⟨(s.mem.zt a ha).1, let ⟨_, e⟩ := (s.mem.zt a ha).2; upd_stay e⟩⟩,
    s.env.1, fun i x e => let ⟨v, h1, h2⟩ := s.env.2 i x e; ⟨v, h1, h2.priv nc nz hp⟩⟩
theorem Ext.priv {ρ0 : Lay} {H0 : Hp} (E : Ext ρ0 H0 ρ H) (hn : H0 p = Option.none) : Ext ρ0 H0 ρ (upd H p (.lst ws)) :=
  ⟨E.pre, E.zin, fun a o e n => by rw [upd_ne (ne_of_none e hn)]; exact E.keep a o e n, fun a o e => let ⟨o', h⟩ := E.stay a o e; upd_stay h, E.oldc, E.oldz⟩
end
/-- the values that the turns give -/
def lcZ (g : DGc) (dt : DT) (de : DE) (env : Ev) : List Vl → Mem → Option (List Vl × Mem)
  | [], m => some ([], m)
  | x :: xs, m => match g x env with
    | some env1 => (match dt env1 m with
      | some (.ok true, m1) => (match de env1 m1 with
        | some (.ok y, m2) => (match lcZ g dt de env xs m2 with
          | some (ys, m3) => some (y :: ys, m3)
          | none => none)
        | _ => none)
      | some (.ok false, m1) => lcZ g dt de env xs m1
      | _ => none)
    | none => none
def dLc (di : DA) (g : DGc) (dt : DT) (de : DE) (vs : List Nat) : DA := fun env m => bindR (di env m) fun xs m => if xs.length ≤ sizeLine then okR (lcZ g dt de (wipeE env vs) xs m) else none
def FE : WX := fun _ _ _ _ => False
theorem tLc_of {K : PySem.W.Frag} {W : WX} {di : DA} {g : DGc} {dt : DT} {de : DE} {σ : L2.St} {H : Hp} {Q : VK} (h : rdL K W (dLc di g dt de vs) σ H Q) : tLc (rdI K W di) (rdGc K g vs) (rdT K FE dt) (rdE K FE de) vs σ H Q := by
  obtain ⟨ρ, env, m, r, m', s, e, p⟩ := h
  unfold dLc at e
  unfold bindR at e
  split at e
  · cases e
  · rename_i xs m1 h0
    dsimp only at e
    split at e
    · rename_i hz
      refine ⟨ρ, env, m, _, _, s, h0, fun ρ1 H1 M1 E1 J hJ D hD => ?_⟩
      obtain ⟨ys, h2, rfl⟩ := okR_some e
      have oc := M1.fresh hD
      have oz := M1.freshz hD
      refine ⟨fun i k H' => k + i = xs.length ∧ ∃ ρ' m2 acc accv rest, S K ρ' (wipeE env vs) m2 (L2.wipe σ vs) H' ∧ Ext ρ1 H1 ρ' H' ∧ H' D = some (.lst accv) ∧ D ∉ ρ'.c ∧ D ∉ ρ'.z ∧ acc.length ≤ i ∧ RVs K ρ' H' acc accv ∧ lcZ g dt de (wipeE env vs) (xs.drop i) m2 = some (rest, m') ∧ ys = acc ++ rest,
        ⟨xs.length, rfl, ρ1, m1, [], [], ys, ⟨M1.laid hD, (s.env.mono (E1.trans (ext_new hD))).wipe vs⟩, ext_new hD, upd_same, oc, oz, Nat.le_refl _, rfl, h2, rfl⟩, fun i k H' ⟨hk, ρ', m2, acc, accv, rest, s', E', hD', nc, nz, hacc, ra, hl, hy⟩ => ?_⟩
      obtain ⟨j1, j2⟩ := hJ i ρ' m2 H' E' s'.mem
      cases k with
      | zero =>
        refine .inl ⟨j2 (by omega), ?_⟩
        rw [List.drop_of_length_le (by omega)] at hl
        cases hl
        refine p ρ' H' s'.mem (E1.trans E') _ ⟨D, accv, rfl, ⟨nc, nz, E1.none hD⟩, hD', by rw [← ra.length]; omega, ?_⟩
        rw [hy, List.append_nil]
        exact ra
      | succ k =>
        have hi : i < xs.length := by omega
        obtain ⟨j3, j4⟩ := j1 xs[i] (by simp [hi])
        refine .inr ⟨j3, fun H2 => k + (i + 1) = xs.length ∧ ∃ ρ' m2 acc accv rest, S K ρ' (wipeE env vs) m2 (L2.wipe σ vs) H2 ∧ Ext ρ1 H1 ρ' H2 ∧ H2 D = some (.lst accv) ∧ D ∉ ρ'.c ∧ D ∉ ρ'.z ∧ acc.length ≤ i + 1 ∧ RVs K ρ' H2 acc accv ∧ lcZ g dt de (wipeE env vs) (xs.drop (i + 1)) m2 = some (rest, m') ∧ ys = acc ++ rest, fun H2 h2 => ⟨k, Nat.lt_succ_self k, h2⟩, fun v H2 hyl => ?_⟩
        obtain ⟨M2, E2, r2⟩ := j4 v H2 hyl
        rw [List.drop_eq_getElem_cons hi] at hl
        unfold lcZ at hl
        split at hl
        · rename_i env1 hg
          refine ⟨ρ', _, m2, xs[i], env1, s'.to E2 M2, r2, hg, fun σ3 s3 w3 => ⟨w3.trans (wipe_wipe fun _ h => h), ?_⟩⟩
          have hD2 : H2 D = some (.lst accv) := E2.keep D _ hD' nc
          have back : ∀ {ρ4 : Lay} {m4 : Mem} {H4 : Hp}, Ext ρ' H2 ρ4 H4 → RM K ρ4 m4 H4 → S K ρ4 (wipeE env vs) m4 (L2.wipe σ vs) H4 := fun E4 M4 => s'.to (E2.trans E4) M4
          split at hl
          · rename_i m4 ht
            refine goT s3 ht fun ρ4 H4 s4 E4 => ?_
            show rdE K FE de σ3 H4 _
            split at hl
            · rename_i y m5 he
              refine goE s4 he fun ρ5 H5 u s5 E5 ru => ?_
              split at hl
              · rename_i zs m6 hr
                cases hl
                have E45 := E4.trans E5
                have hD5 : H5 D = some (.lst accv) := E45.keep D _ hD2 nc
                have nc5 : D ∉ ρ5.c := E45.out hD2 nc
                have nz5 : D ∉ ρ5.z := E45.outz hD2 nz
                refine ⟨accv, hD5, by rw [← ra.length]; omega, by omega, ρ5, m5, acc ++ [y], accv ++ [u], zs, ?_⟩
                -- the list grows: nobody knows it
                have sb := back E45 s5.mem
                refine ⟨sb.priv nc5 nz5 hD5, ((E'.trans E2).trans E45).priv hD, upd_same, nc5, nz5, by rw [List.length_append]; show acc.length + 1 ≤ _; omega, ?_, hr, by rw [hy, List.append_assoc]; rfl⟩
                exact RVs.priv nc5 nz5 hD5 _ ((ra.mono (E2.trans E45)).append ⟨u, [], rfl, ru, rfl⟩)
              · cases hl
            · cases hl
          · rename_i m4 ht
            refine goT s3 ht fun ρ4 H4 s4 E4 => ?_
            show _ ∧ _
            refine ⟨by omega, ρ4, m4, acc, accv, rest, back E4 s4.mem, (E'.trans E2).trans E4, E4.keep D _ hD2 nc, E4.out hD2 nc, E4.outz hD2 nz, by omega, ra.mono (E2.trans E4), hl, hy⟩
          · cases hl
        · cases hl
    · cases e
  · rename_i c fs m1 h0
    cases e
    exact ⟨ρ, env, m, _, _, s, h0, fun ρ' H' M E dd x => p ρ' H' M E dd x⟩
/-- [e for x in xs if t]: a new list -/
theorem sl_lc {elt tg iter : Expr} {ifs : List Expr} {scope : Scope} {own : List (Str × Nat)} {di : DA} {g : DGc} {dt : DT} {de : DE} (hc : X.calm = true) (hN : X.N.Nodup) (hi : SI X tg iter di) (ok : BlkOk X.N X.env.scope scope own)
    (hg : ∀ (s : Shared) (H : Hp) (C : Addr) (cl : List (Str × Addr)) (fp : List Addr), SGc (X.blk s H scope (compEnvC scope cl C X.env) fp) tg g (own.map (·.2))) (ht : ∀ (s : Shared) (H : Hp) (C : Addr) (cl : List (Str × Addr)) (fp : List Addr), STs (X.blk s H scope (compEnvC scope cl C X.env) fp) ifs dt)
    (he : ∀ (s : Shared) (H : Hp) (C : Addr) (cl : List (Str × Addr)) (fp : List Addr), SE (X.blk s H scope (compEnvC scope cl C X.env) fp) elt de) (hs : ∀ x, foldedSetIterable iter X.env x = pure x := by intro _; rfl) :
    SL X (.ListComp elt [⟨tg, iter, ifs, 0⟩] scope pos) (dLc di g dt de (own.map (·.2))) := ⟨fun W tk =>
  impPE (pe_lc hc hN (hi.run W tk) ok (fun s H C cl fp => (hg s H C cl fp).run) (fun s H C cl fp => (ht s H C cl fp).run FE takesF) (fun s H C cl fp => (he s H C cl fp).run FE takesF) hs) fun σ H Q h => tLc_of h⟩
/-- y = [..] of one line -/
def dAsgL (i : Nat) (cell : Bool) (d : DA) : DS := fun env m => bindS (d env m) env fun xs m => if cell = true then some (.nx (env.set i (some (.obj m.length))), m ++ [.lst xs]) else some (.nx (env.set i (some (.lst xs))), m)
theorem ss_setLc {i : Nat} {y : Str} {py spos : Pos} {cell : Bool} {elt tg iter : Expr} {ifs : List Expr} {scope : Scope} {own : List (Str × Nat)} {di : DA} {g : DGc} {dt : DT} {de : DE} (hc : X.calm = true) (hN : X.N.Nodup) (hy : X.N[i]? = some y) (hyl : X.env.scope.names.lookup y = some .local)
    (hsw : swapsWith (.ListComp elt [⟨tg, iter, ifs, 0⟩] scope pos) (some (.Name y py)) spos.line X.env = pure true) (hi : SI X tg iter di) (ok : BlkOk X.N X.env.scope scope own)
    (hg : ∀ (s : Shared) (H : Hp) (C : Addr) (cl : List (Str × Addr)) (fp : List Addr), SGc (X.blk s H scope (compEnvC scope cl C X.env) fp) tg g (own.map (·.2))) (ht : ∀ (s : Shared) (H : Hp) (C : Addr) (cl : List (Str × Addr)) (fp : List Addr), STs (X.blk s H scope (compEnvC scope cl C X.env) fp) ifs dt)
    (he : ∀ (s : Shared) (H : Hp) (C : Addr) (cl : List (Str × Addr)) (fp : List Addr), SE (X.blk s H scope (compEnvC scope cl C X.env) fp) elt de) (hs : ∀ x, foldedSetIterable iter X.env x = pure x := by intro _; rfl) :
    SS X (.Assign [.Name y py] (.ListComp elt [⟨tg, iter, ifs, 0⟩] scope pos) spos) (dAsgL i cell (dLc di g dt de (own.map (·.2)))) := ⟨fun W tk =>
  impPS (ps_setLc hc hN hy hyl hsw (hi.run W tk) ok (fun s H C cl fp => (hg s H C cl fp).run) (fun s H C cl fp => (ht s H C cl fp).run FE takesF) (fun s H C cl fp => (he s H C cl fp).run FE takesF) hs) fun D σ H ⟨ρ, env, m, f, m', s, e, p⟩ => by
    refine tLc_of (W := W) (g := g) (dt := dt) (de := de) ?_
    unfold dAsgL bindS at e
    split at e
    · cases e
    · rename_i xs m1 h0
      refine goL s h0 fun ρ' H' a vs s' E w h3 h4 r => ?_
      show D.nx (σ.set i (some (.ref a))) H'
      cases cell with
      | true =>
        dsimp only at e
        rw [if_pos rfl] at e
        cases e
        have s2 := s'.cel (c := .lst xs) w.c w.z h3 rfl ⟨vs, h3, r⟩
        exact p _ H' s2.mem (E.toCel w) _ (s2.env.set ⟨a, rfl, by
          show (ρ'.c ++ [a])[m1.length]? = some a
          rw [← s'.mem.len]
          simp⟩)
      | false =>
        dsimp only at e
        rw [if_neg (by decide)] at e
        cases e
        have s2 := s'.frz w.c h3
        exact p _ H' s2.mem (E.toFrz w) _ (s2.env.set ⟨a, vs, rfl, ⟨mem_frz.mpr (.inr rfl), w.c⟩, h3, r.frz w.c⟩)
    · rename_i c fs m1 h0
      cases e
      exact exL s h0 fun ρ' H' dd s' E r => p ρ' H' s'.mem E σ s'.env dd r⟩
end
end Z
namespace Z
open PySem PySem.Spec PyProof.Rows L2
/-! ### built-ins by values -/
abbrev FB := List Vl → Mem → Option (Vl × Mem)
def orB (f g : FB) : FB := fun xs m => match f xs m with
  | some r => some r
  | none => g xs m
def SCF (K : PySem.W.Frag) (f : FB) (r : List V → Hp → VK → Prop) : Prop := ∀ (ρ : Lay) (m : Mem) (H : Hp) (xs : List Vl) (vs : List V) (z : Vl) (m' : Mem) (Q : VK), RM K ρ m H → RVs K ρ H xs vs → f xs m = some (z, m') →
  (∀ ρ' H' w, RM K ρ' m' H' → Ext ρ H ρ' H' → RV K ρ' H' z w → Q w H') → r vs H Q
def dB (f : FB) (d : DA) : DE := fun env m => bindR (d env m) fun xs m => okR (f xs m)
section
variable {X : Cx} {x : Str} {p pos apos : Pos} {e o : Expr} {es : List Expr} {d : DA} {de : DE} {id T : String} {r r' : List V → Hp → VK → Prop} {f g : FB} {name : Str}
theorem scf_or {K : PySem.W.Frag} (h : SCF K f r) (h' : SCF K g r') : SCF K (orB f g) (fun xs H Q => r xs H Q ∨ r' xs H Q) := fun ρ m H xs vs z m' Q M a e k => by
  unfold orB at e
  split at e
  · rename_i q hq
    cases e
    exact .inl (h ρ m H xs vs z m' Q M a hq k)
  · exact .inr (h' ρ m H xs vs z m' Q M a e k)
theorem tCB_of {W : WX} {K : PySem.W.Frag} (hf : SCF K f r) {σ : L2.St} {H : Hp} {Q : VK} (h : rdE K W (dB f d) σ H Q) : tCB r (rdA K W d) σ H Q := by
  obtain ⟨ρ, env, m, z, m', s, e, p⟩ := h
  exact bindA s e p fun xs m1 ρ1 H1 vs s1 E1 r1 e1 p1 => by
    obtain ⟨w, h1, rfl⟩ := okR_some e1
    exact hf ρ1 m1 H1 xs vs w m' Q s1.mem r1 h1 fun ρ' H' u M E r => p1 ρ' H' M E u r
theorem se_callB (hc : CallR X (.builtin id) r) (hf : SCF X.K f r) (hg : Gl X x) (hm : X.mg x = none) (hv : bootBuiltins x = some (.builtin id)) (ha : SA X (e :: es) d) (hn : x ≠ "__name__" := by decide) (hdb : (x == ("__debug__" : Str)) = false := by decide)
    (he : starEach (e :: es) X.env = (false, eval e X.env) :: starEach es X.env := by rfl) (hpl : (backTo pos (starEach es X.env)).any (·.1) = false := by rfl) : SE X (.Call (.Name x p) (e :: es) [] pos) (dB f d) := ⟨fun W tk =>
  impPE (pe_callB hc hg hm hv (ha.run W tk) hn hdb he hpl) fun σ H Q h => tCB_of hf h⟩
theorem se_callTy (hc : CallR X (.type T) r) (hf : SCF X.K f r) (hg : Gl X x) (hm : X.mg x = none) (hv : bootBuiltins x = some (.type T)) (ha : SA X (e :: es) d) (hn : x ≠ "__name__" := by decide) (hdb : (x == ("__debug__" : Str)) = false := by decide)
    (he : starEach (e :: es) X.env = (false, eval e X.env) :: starEach es X.env := by rfl) (hpl : (backTo pos (starEach es X.env)).any (·.1) = false := by rfl) : SE X (.Call (.Name x p) (e :: es) [] pos) (dB f d) := ⟨fun W tk =>
  impPE (pe_callTy hc hg hm hv (ha.run W tk) hn hdb he hpl) fun σ H Q h => tCB_of hf h⟩
/-! the built-ins -/
def lenF : FB := fun xs m => match xs with
  | [.str z] => if z.length ≤ sizeLine then some (.int z.length, m) else none
  | [x] => (match seqD m x with
    | some ys => some (.int ys.length, m)
    | none => none)
  | _ => none
theorem scf_len {K : PySem.W.Frag} : SCF K lenF (fun xs H Q => (∃ p ys, xs = [.ref p] ∧ (SqL K H p ys ∨ SqT K H p ys) ∧ Q (.int ys.length) H) ∨ ∃ z, xs = [.str z] ∧ z.length ≤ sizeLine ∧ Q (.int z.length) H) := fun ρ m H xs vs z m' Q M a e k => by
  unfold lenF at e
  split at e
  · rename_i t
    split at e
    · rename_i c
      cases e
      obtain ⟨v, s, rfl, h1, h2⟩ := a
      subst h2
      exact .inr ⟨t, by rw [show v = V.str t from h1], c, k ρ H _ M .refl rfl⟩
    · cases e
  · split at e
    · rename_i ys hy
      cases e
      obtain ⟨v, s, rfl, h1, h2⟩ := a
      subst h2
      obtain ⟨q, ws, rfl, h3, h4⟩ := seqD_ok M h1 hy
      exact .inl ⟨q, ws, rfl, h3, k ρ H _ M .refl (by rw [h4.length]; rfl)⟩
    · cases e
  · cases e
theorem se_len (hg : Gl X "len") (hm : X.mg "len" = none) (ha : SA X (e :: es) d) (he : starEach (e :: es) X.env = (false, eval e X.env) :: starEach es X.env := by rfl) (hpl : (backTo pos (starEach es X.env)).any (·.1) = false := by rfl) :
    SE X (.Call (.Name "len" p) (e :: es) [] pos) (dB lenF d) := se_callB (CallR.or call_len_seq call_len_str) scf_len hg hm PySem.boot_len ha (by decide) (by decide) he hpl
def absF : FB := fun xs m => match xs with
  | [.int i] => some (.int (if i < 0 then -i else i), m)
  | _ => none
theorem scf_abs {K : PySem.W.Frag} : SCF K absF (fun xs H Q => ∃ i, xs = [.int i] ∧ Q (.int (if i < 0 then -i else i)) H) := fun ρ m H xs vs z m' Q M a e k => by
  unfold absF at e
  split at e
  · rename_i i
    cases e
    obtain ⟨v, s, rfl, h1, h2⟩ := a
    subst h2
    exact ⟨i, by rw [show v = V.int i from h1], k ρ H _ M .refl rfl⟩
  · cases e
theorem se_abs (hg : Gl X "abs") (hm : X.mg "abs" = none) (ha : SA X (e :: es) d) (he : starEach (e :: es) X.env = (false, eval e X.env) :: starEach es X.env := by rfl) (hpl : (backTo pos (starEach es X.env)).any (·.1) = false := by rfl) :
    SE X (.Call (.Name "abs" p) (e :: es) [] pos) (dB absF d) := se_callB call_abs scf_abs hg hm (by decide +kernel) ha (by decide) (by decide) he hpl
def two (g : Int → Int → Int) : FB := fun xs m => match xs with
  | [.int i, .int j] => some (.int (g i j), m)
  | _ => none
theorem scf_two {K : PySem.W.Frag} {g : Int → Int → Int} : SCF K (two g) (fun xs H Q => ∃ i j, xs = [.int i, .int j] ∧ Q (.int (g i j)) H) := fun ρ m H xs vs z m' Q M a e k => by
  unfold two at e
  split at e
  · rename_i i j
    cases e
    obtain ⟨v, s, rfl, h1, v2, s2, rfl, h2, h3⟩ := a
    subst h3
    exact ⟨i, j, by rw [show v = V.int i from h1, show v2 = V.int j from h2], k ρ H _ M .refl rfl⟩
  · cases e
def maxZ (i j : Int) : Int := if j > i then j else i
def minZ (i j : Int) : Int := if j < i then j else i
theorem se_max2 (hc : X.calm = true) (hg : Gl X "max") (hm : X.mg "max" = none) (ha : SA X (e :: es) d) (he : starEach (e :: es) X.env = (false, eval e X.env) :: starEach es X.env := by rfl) (hpl : (backTo pos (starEach es X.env)).any (·.1) = false := by rfl) :
    SE X (.Call (.Name "max" p) (e :: es) [] pos) (dB (two maxZ) d) := se_callB (call_max2 hc) scf_two hg hm (by decide +kernel) ha (by decide) (by decide) he hpl
theorem se_min2 (hc : X.calm = true) (hg : Gl X "min") (hm : X.mg "min" = none) (ha : SA X (e :: es) d) (he : starEach (e :: es) X.env = (false, eval e X.env) :: starEach es X.env := by rfl) (hpl : (backTo pos (starEach es X.env)).any (·.1) = false := by rfl) :
    SE X (.Call (.Name "min" p) (e :: es) [] pos) (dB (two minZ) d) := se_callB (call_min2 hc) scf_two hg hm (by decide +kernel) ha (by decide) (by decide) he hpl
def intFn : FB := fun xs m => match xs with
  | [.int i] => some (.int i, m)
  | [.bl b] => some (.int (if b then 1 else 0), m)
  | _ => none
theorem scf_intFn {K : PySem.W.Frag} : SCF K intFn (fun xs H Q => (∃ i, xs = [.int i] ∧ Q (.int i) H) ∨ ∃ k, xs = [.bl k] ∧ Q (.int (if k then 1 else 0)) H) := fun ρ m H xs vs z m' Q M a e k => by
  unfold intFn at e
  split at e
  · rename_i i
    cases e
    obtain ⟨v, s, rfl, h1, h2⟩ := a
    subst h2
    exact .inl ⟨i, by rw [show v = V.int i from h1], k ρ H _ M .refl rfl⟩
  · rename_i i
    cases e
    obtain ⟨v, s, rfl, h1, h2⟩ := a
    subst h2
    exact .inr ⟨i, by rw [show v = V.bl i from h1], k ρ H _ M .refl rfl⟩
  · cases e
theorem se_int1 (hg : Gl X "int") (hm : X.mg "int" = none) (ha : SA X (e :: es) d) (he : starEach (e :: es) X.env = (false, eval e X.env) :: starEach es X.env := by rfl) (hpl : (backTo pos (starEach es X.env)).any (·.1) = false := by rfl) :
    SE X (.Call (.Name "int" p) (e :: es) [] pos) (dB intFn d) := se_callTy call_int1 scf_intFn hg hm (by decide +kernel) ha (by decide) (by decide) he hpl
/-- list(x): a new list -/
def listH (m : Mem) (xs : List Vl) : Option (R (List Vl) × Mem) := match xs with
  | [x] => (match seqD m x with
    | some ys => if ys.length ≤ sizeLine then some (.ok ys, m) else none
    | none => none)
  | _ => none
def dListOf (d : DA) : DA := fun env m => bindR (d env m) fun xs m => listH m xs
theorem sl_list (hg : Gl X "list") (hm : X.mg "list" = none) (ha : SA X (e :: es) d) (he : starEach (e :: es) X.env = (false, eval e X.env) :: starEach es X.env := by rfl) (hpl : (backTo pos (starEach es X.env)).any (·.1) = false := by rfl) :
    SL X (.Call (.Name "list" p) (e :: es) [] pos) (dListOf d) := ⟨fun W tk => impPE (pe_callTy call_list_of hg hm (by decide +kernel) (ha.run W tk) (by decide) (by decide) he hpl) fun σ H Q ⟨ρ, env, m, z, m', s, e, p⟩ => by
    unfold dListOf bindR at e
    split at e
    · cases e
    · rename_i xs m1 h0
      refine goA s h0 fun ρ' H' vs s' E r => ?_
      dsimp only at e
      unfold listH at e
      split at e
      · rename_i x
        split at e
        · rename_i ys hy
          split at e
          · rename_i hz
            cases e
            obtain ⟨v, t, rfl, h1, h2⟩ := r
            subst h2
            obtain ⟨q, ws, rfl, h3, h4⟩ := seqD_ok s'.mem h1 hy
            exact ⟨q, ws, rfl, h3, fun l hl => p ρ' _ (s'.mem.laid hl) (E.trans (ext_new hl)) _ ⟨l, ws, rfl, ⟨s'.mem.fresh hl, s'.mem.freshz hl, E.none hl⟩, upd_same, by rw [← h4.length]; exact hz, h4.mono (ext_new hl)⟩⟩
          · cases e
        · cases e
      · cases e
    · rename_i c fs m1 h0
      cases e
      exact exA s h0 fun ρ' H' dd s' E r => p ρ' H' s'.mem E dd r⟩
/-- tuple(x) -/
def tupleF : FB := fun xs m => match xs with
  | [x] => (match seqD m x with
    | some ys => some (.tup ys, m)
    | none => none)
  | _ => none
theorem scf_tuple {K : PySem.W.Frag} : SCF K tupleF (fun xs H Q => ∃ p ys, xs = [.ref p] ∧ ((SqL K H p ys ∧ ∀ l, H l = none → Q (.ref l) (upd H l (.tup ys))) ∨ (SqT K H p ys ∧ Q (.ref p) H))) := fun ρ m H xs vs z m' Q M a e k => by
  unfold tupleF at e
  split at e
  · rename_i x
    split at e
    · rename_i ys hy
      cases e
      obtain ⟨v, s, rfl, h1, h2⟩ := a
      subst h2
      by_cases ht : ∃ zs, x = .tup zs
      · obtain ⟨zs, rfl⟩ := ht
        cases hy
        obtain ⟨q, ws, rfl, h3, h4⟩ := h1
        exact ⟨q, ws, rfl, .inr ⟨h3.sq, k ρ H _ M .refl ⟨q, ws, rfl, h3, h4⟩⟩⟩
      · have hl : lisD m x = some ys := by
          cases x <;> first | exact hy | exact absurd ⟨_, rfl⟩ ht
        obtain ⟨q, ws, rfl, h3, h4⟩ := lisD_ok M h1 hl
        exact ⟨q, ws, rfl, .inl ⟨h3, fun l hn => k ρ _ _ (M.laid hn) (ext_new hn) (new_tup M hn h4)⟩⟩
    · cases e
  · cases e
theorem se_tuple (hg : Gl X "tuple") (hm : X.mg "tuple" = none) (ha : SA X (e :: es) d) (he : starEach (e :: es) X.env = (false, eval e X.env) :: starEach es X.env := by rfl) (hpl : (backTo pos (starEach es X.env)).any (·.1) = false := by rfl) :
    SE X (.Call (.Name "tuple" p) (e :: es) [] pos) (dB tupleF d) := se_callTy call_tuple_of scf_tuple hg hm (by decide +kernel) ha (by decide) (by decide) he hpl
/-- all, any of a list of truth values -/
def blsL : List Vl → Option (List Bool)
  | [] => some []
  | .bl b :: xs => (match blsL xs with
    | some bs => some (b :: bs)
    | none => none)
  | _ :: _ => none
theorem blsL_ok {K : PySem.W.Frag} {ρ : Lay} {H : Hp} : ∀ {xs : List Vl} {vs : List V} {bs : List Bool}, RVs K ρ H xs vs → blsL xs = some bs → vs = bs.map V.bl
  | [], _, _, h, e => by
    cases e
    exact h
  | x :: xs, _, _, ⟨v, r, h1, h2, h3⟩, e => by
    cases x with
    | bl b =>
      unfold blsL at e
      split at e
      · rename_i bs hb
        cases e
        rw [h1, blsL_ok h3 hb, show v = V.bl b from h2] <;> rfl
      · cases e
    | _ => cases e
def quant (g : List Bool → Bool) : FB := fun xs m => match xs with
  | [x] => (match lisD m x with
    | some ys => (match blsL ys with
      | some bs => some (.bl (g bs), m)
      | none => none)
    | none => none)
  | _ => none
theorem scf_quant {K : PySem.W.Frag} {g : List Bool → Bool} : SCF K (quant g) (fun vs H Q => ∃ (a : Addr) (bs : List Bool), vs = [V.ref a] ∧ SqL K H a (bs.map V.bl) ∧ Q (.bl (g bs)) H) := fun ρ m H xs vs z m' Q M a e k => by
  unfold quant at e
  split at e
  · split at e
    · rename_i ys hy
      split at e
      · rename_i bs hb
        cases e
        obtain ⟨v, s, rfl, h1, h2⟩ := a
        subst h2
        obtain ⟨q, ws, rfl, h3, h4⟩ := lisD_ok M h1 hy
        exact ⟨q, bs, rfl, by rw [← blsL_ok h4 hb]; exact h3, k ρ H _ M .refl rfl⟩
      · cases e
    · cases e
  · cases e
theorem se_all (hc : X.calm = true) (hg : Gl X "all") (hm : X.mg "all" = none) (ha : SA X (e :: es) d) (he : starEach (e :: es) X.env = (false, eval e X.env) :: starEach es X.env := by rfl) (hpl : (backTo pos (starEach es X.env)).any (·.1) = false := by rfl) :
    SE X (.Call (.Name "all" p) (e :: es) [] pos) (dB (quant fun bs => bs.all fun b => b) d) := se_callB (cr_all hc) scf_quant hg hm (by decide +kernel) ha (by decide) (by decide) he hpl
theorem se_any (hc : X.calm = true) (hg : Gl X "any") (hm : X.mg "any" = none) (ha : SA X (e :: es) d) (he : starEach (e :: es) X.env = (false, eval e X.env) :: starEach es X.env := by rfl) (hpl : (backTo pos (starEach es X.env)).any (·.1) = false := by rfl) :
    SE X (.Call (.Name "any" p) (e :: es) [] pos) (dB (quant fun bs => bs.any fun b => b) d) := se_callB (cr_any hc) scf_quant hg hm (by decide +kernel) ha (by decide) (by decide) he hpl
/-! ### methods of built-in types -/
abbrev FM := Vl → List Vl → Mem → Option (Vl × Mem)
def SMF (K : PySem.W.Frag) (f : FM) (T : String) (r : V → List V → Hp → VK → Prop) : Prop := ∀ (ρ : Lay) (m : Mem) (H : Hp) (x : Vl) (xs : List Vl) (v : V) (vs : List V) (z : Vl) (m' : Mem) (Q : VK), RM K ρ m H → RV K ρ H x v → RVs K ρ H xs vs → f x xs m = some (z, m') →
  (∀ ρ' H' w, RM K ρ' m' H' → Ext ρ H ρ' H' → RV K ρ' H' z w → Q w H') → r v vs H Q
/-- the receiver's kind, told before the arguments -/
def tyM (T : String) (m : Mem) : Vl → Bool
  | .str _ => decide (T = "str")
  | .lst _ => decide (T = "list")
  | .obj n => (match m[n]? with
    | some (.lst _) => decide (T = "list")
    | some (.dic _) => decide (T = "dict")
    | some (.dit _) => decide (T = "dict")
    | _ => false)
  | .dic _ => decide (T = "dict")
  | .dit _ => decide (T = "dict")
  | _ => false
theorem tyM_ok {K : PySem.W.Frag} {ρ : Lay} {m : Mem} {H : Hp} {x : Vl} {v : V} (M : RM K ρ m H) (a : RV K ρ H x v) (h : tyM T m x = true) : tyV K T v H := by
  cases x with
  | str z =>
    rw [show v = V.str z from a]
    show T = "str"
    exact of_decide_eq_true h
  | lst xs =>
    obtain ⟨q, vs, rfl, _, h1, _⟩ := a
    exact .inl ⟨of_decide_eq_true h, vs, SqL.of h1⟩
  | dic xs =>
    obtain ⟨q, vs, rfl, _, h1, _⟩ := a
    exact .inr (.inr (.inl ⟨of_decide_eq_true h, .inl ⟨vs, h1⟩⟩))
  | dit xs =>
    obtain ⟨q, vs, rfl, _, h1, _⟩ := a
    exact .inr (.inr (.inl ⟨of_decide_eq_true h, .inr ⟨vs, h1⟩⟩))
  | obj n =>
    obtain ⟨q, rfl, hq⟩ := a
    have h' : (match m[n]? with
      | some (.lst _) => decide (T = "list")
      | some (.dic _) => decide (T = "dict")
      | some (.dit _) => decide (T = "dict")
      | _ => false) = true := h
    split at h'
    · rename_i xs hx
      obtain ⟨vs, h1, _⟩ := M.at_ _ _ _ hx hq
      exact .inl ⟨of_decide_eq_true h', vs, SqL.of h1⟩
    · rename_i xs hx
      obtain ⟨vs, h1, _⟩ := M.at_ _ _ _ hx hq
      exact .inr (.inr (.inl ⟨of_decide_eq_true h', .inl ⟨vs, h1⟩⟩))
    · rename_i xs hx
      obtain ⟨vs, h1, _⟩ := M.at_ _ _ _ hx hq
      exact .inr (.inr (.inl ⟨of_decide_eq_true h', .inr ⟨vs, h1⟩⟩))
    · cases h'
  | _ => cases h
def dM (T : String) (f : FM) (de : DE) (d : DA) : DE := fun env m => bindR (de env m) fun x m => if tyM T m x = true then bindR (d env m) fun xs m => okR (f x xs m) else none
theorem se_bm {rm : V → List V → Hp → VK → Prop} {fm : FM} (pa : PlainAttrs T) (slot : Slot T name id) (hty : typeOf (.builtin id) = pure (.type "method_descriptor")) (hm : MtR X id rm) (hf : SMF X.K fm T rm) (ho : SE X o de) (ha : SA X (e :: es) d)
    (hbase : attributeBase o name X.env (eval o X.env) = eval o X.env := by rfl)
    (hfew : ((backTo pos (starEach (e :: es) X.env)).all (fun x => !x.1) && (backToKw pos (keywordEach [] X.env)).all (fun x => x.1.isSome)
      && decide ((e :: es).length + ([] : List Keyword).length + (if ([] : List Keyword).isEmpty then 0 else 1) < 30)) = true := by rfl)
    (hline : (apos.endLine == pos.line) = true := by rfl) (hs : starEach (e :: es) X.env = (false, eval e X.env) :: starEach es X.env := by rfl) (hplain : (backTo pos (starEach es X.env)).any (·.1) = false := by rfl) :
    SE X (.Call (.Attribute o name apos) (e :: es) [] pos) (dM T fm de d) := ⟨fun W tk =>
  impPE (pe_bm pa slot hty hm (ho.run W tk) (ha.run W tk) hbase hfew hline hs hplain) fun σ H Q ⟨ρ, env, m, z, m', s, e, p⟩ => bindE s e p fun x m1 ρ1 H1 v s1 E1 r1 e1 p1 => by
    split at e1
    · rename_i ht
      exact ⟨tyM_ok s1.mem r1 ht, bindA s1 e1 p1 fun xs m2 ρ2 H2 vs s2 E2 r2 e2 p2 => by
        obtain ⟨w, h1, rfl⟩ := okR_some e2
        exact hf ρ2 m2 H2 x xs v vs w m' Q s2.mem (r1.mono E2) r2 h1 fun ρ' H' u M E r => p2 ρ' H' M E u r⟩
    · cases e1⟩
theorem se_bm0 {rm : V → List V → Hp → VK → Prop} {fm : FM} (pa : PlainAttrs T) (slot : Slot T name id) (hty : typeOf (.builtin id) = pure (.type "method_descriptor")) (hm : MtR X id rm) (hf : SMF X.K fm T rm) (ho : SE X o de)
    (hbase : attributeBase o name X.env (eval o X.env) = eval o X.env := by rfl) (hline : (apos.endLine == pos.line) = true := by rfl) : SE X (.Call (.Attribute o name apos) [] [] pos) (dM T fm de dNone) := ⟨fun W tk =>
  impPE (pe_bm0 pa slot hty hm (ho.run W tk) hbase hline) fun σ H Q ⟨ρ, env, m, z, m', s, e, p⟩ => bindE s e p fun x m1 ρ1 H1 v s1 E1 r1 e1 p1 => by
    split at e1
    · rename_i ht
      unfold dNone bindR at e1
      obtain ⟨w, h1, rfl⟩ := okR_some e1
      exact ⟨tyM_ok s1.mem r1 ht, hf ρ1 m1 H1 x [] v [] w m' Q s1.mem r1 rfl h1 fun ρ' H' u M E r => p1 ρ' H' M E u r⟩
    · cases e1⟩
theorem put_lst {K : PySem.W.Frag} {ρ : Lay} {m : Mem} {H : Hp} {n : Nat} {q : Addr} {xs : List Vl} {vs : List V} (M : RM K ρ m H) (hq : ρ.c[n]? = some q) (r : RVs K ρ H xs vs) : RM K ρ (m.set n (.lst xs)) (upd H q (.lst vs)) ∧ Ext ρ H ρ (upd H q (.lst vs)) :=
  have E : Ext ρ H ρ (upd H q (.lst vs)) := ext_set (List.mem_of_getElem? hq)
  ⟨M.put hq ⟨vs, upd_same, r.mono E⟩, E⟩
/-- xs.append(y) and others that change a list -/
def lstM (h : List Vl → List Vl → Option (Vl × List Vl)) : FM := fun x xs m => match x with
  | .obj n => (match m[n]? with
    | some (.lst ys) => (match h ys xs with
      | some (z, zs) => some (z, m.set n (.lst zs))
      | none => none)
    | _ => none)
  | _ => none
theorem smf_lst {K : PySem.W.Frag} {T : String} {h : List Vl → List Vl → Option (Vl × List Vl)} {rm : V → List V → Hp → VK → Prop}
    (hr : ∀ (ρ : Lay) (H : Hp) (a : Addr) (ys xs zs : List Vl) (us vs : List V) (z : Vl) (Q : VK), H a = some (.lst us) → RVs K ρ H ys us → RVs K ρ H xs vs → h ys xs = some (z, zs) → (∀ w ws, RV K ρ H z w → RVs K ρ H zs ws → Q w (upd H a (.lst ws))) → rm (.ref a) vs H Q) : SMF K (lstM h) T rm := fun ρ m H x xs v vs z m' Q M a b e k => by
  unfold lstM at e
  split at e
  · rename_i n
    split at e
    · rename_i ys hy
      split at e
      · rename_i w zs hz
        cases e
        obtain ⟨q, rfl, hq⟩ := a
        obtain ⟨us, h1, h2⟩ := M.at_ _ _ _ hy hq
        refine hr ρ H q ys xs zs us vs z Q h1 h2 b hz fun w ws rw_ rz => ?_
        obtain ⟨M', E'⟩ := put_lst M hq rz
        exact k ρ _ _ M' E' (rw_.mono E')
      · cases e
    · cases e
  · cases e
def appH (ys xs : List Vl) : Option (Vl × List Vl) := match xs with
  | [y] => if ys.length < sizeLine then some (.non, ys ++ [y]) else none
  | _ => none
theorem smf_app {K : PySem.W.Frag} : SMF K (lstM appH) "list" rAppend := smf_lst fun ρ H a ys xs zs us vs z Q h1 h2 b e k => by
  unfold appH at e
  split at e
  · rename_i y
    split at e
    · rename_i c
      cases e
      obtain ⟨v, s, rfl, r1, r2⟩ := b
      subst r2
      exact ⟨a, us, v, rfl, rfl, h1, by rw [← h2.length]; exact c, k _ _ rfl (h2.append ⟨v, [], rfl, r1, rfl⟩)⟩
    · cases e
  · cases e
theorem se_append (ho : SE X o de) (ha : SA X [e] d)
    (hbase : attributeBase o "append" X.env (eval o X.env) = eval o X.env := by rfl)
    (hfew : ((backTo pos (starEach [e] X.env)).all (fun x => !x.1) && (backToKw pos (keywordEach [] X.env)).all (fun x => x.1.isSome)
      && decide ([e].length + ([] : List Keyword).length + (if ([] : List Keyword).isEmpty then 0 else 1) < 30)) = true := by rfl)
    (hline : (apos.endLine == pos.line) = true := by rfl) (hs : starEach [e] X.env = (false, eval e X.env) :: starEach [] X.env := by rfl) (hplain : (backTo pos (starEach [] X.env)).any (·.1) = false := by rfl) :
    SE X (.Call (.Attribute o "append" apos) [e] [] pos) (dM "list" (lstM appH) de d) := se_bm PySem.F.plainAttrs_list PySem.F.slot_list_append PySem.F.type_list_append mt_append smf_app ho ha hbase hfew hline hs hplain
def extH (m : Mem) (ys xs : List Vl) : Option (Vl × List Vl) := none
def popH (ys xs : List Vl) : Option (Vl × List Vl) := match xs with
  | [.int i] => if (decide (-(2 ^ 63) ≤ i) && decide (i < 2 ^ 63)) = true then (match seqIndex? i ys.length with
    | some k => (match ys[k]? with
      | some y => some (y, ys.eraseIdx k)
      | none => none)
    | none => none) else none
  | _ => none
theorem smf_popAt {K : PySem.W.Frag} : SMF K (lstM popH) "list" rPopAt := smf_lst fun ρ H a ys xs zs us vs z Q h1 h2 b e k => by
  unfold popH at e
  split at e
  · rename_i i
    split at e
    · rename_i c
      split at e
      · rename_i j hj
        split at e
        · rename_i y hy
          cases e
          rw [Bool.and_eq_true, decide_eq_true_eq, decide_eq_true_eq] at c
          obtain ⟨v, s, rfl, r1, r2⟩ := b
          subst r2
          obtain ⟨w, h3, h4⟩ := h2.get hy
          exact ⟨a, us, i, j, w, rfl, by rw [show v = V.int i from r1], h1, c.1, c.2, by rw [← h2.length]; exact hj, h3, k _ _ h4 (h2.eraseIdx j)⟩
        · cases e
      · cases e
    · cases e
  · cases e
theorem se_popAt (ho : SE X o de) (ha : SA X [e] d)
    (hbase : attributeBase o "pop" X.env (eval o X.env) = eval o X.env := by rfl)
    (hfew : ((backTo pos (starEach [e] X.env)).all (fun x => !x.1) && (backToKw pos (keywordEach [] X.env)).all (fun x => x.1.isSome)
      && decide ([e].length + ([] : List Keyword).length + (if ([] : List Keyword).isEmpty then 0 else 1) < 30)) = true := by rfl)
    (hline : (apos.endLine == pos.line) = true := by rfl) (hs : starEach [e] X.env = (false, eval e X.env) :: starEach [] X.env := by rfl) (hplain : (backTo pos (starEach [] X.env)).any (·.1) = false := by rfl) :
    SE X (.Call (.Attribute o "pop" apos) [e] [] pos) (dM "list" (lstM popH) de d) := se_bm PySem.F.plainAttrs_list PySem.F.slot_list_pop PySem.F.type_list_pop mt_popAt smf_popAt ho ha hbase hfew hline hs hplain
def pop0H (ys xs : List Vl) : Option (Vl × List Vl) := match xs with
  | [] => (match ys[ys.length - 1]? with
    | some y => some (y, ys.dropLast)
    | none => none)
  | _ => none
theorem RVs.dropLast {K : PySem.W.Frag} {ρ : Lay} {H : Hp} {xs : List Vl} {vs : List V} (r : RVs K ρ H xs vs) : RVs K ρ H xs.dropLast vs.dropLast := by
  rw [List.dropLast_eq_take, List.dropLast_eq_take, r.length]
  exact r.take _
theorem smf_pop {K : PySem.W.Frag} : SMF K (lstM pop0H) "list" rPop := smf_lst fun ρ H a ys xs zs us vs z Q h1 h2 b e k => by
  unfold pop0H at e
  split at e
  · split at e
    · rename_i y hy
      cases e
      rw [show vs = [] from b]
      obtain ⟨w, h3, h4⟩ := h2.get hy
      exact ⟨a, us, w, rfl, rfl, h1, by rw [← h2.length]; exact h3, k _ _ h4 h2.dropLast⟩
    · cases e
  · cases e
theorem se_pop (ho : SE X o de) (hbase : attributeBase o "pop" X.env (eval o X.env) = eval o X.env := by rfl) (hline : (apos.endLine == pos.line) = true := by rfl) :
    SE X (.Call (.Attribute o "pop" apos) [] [] pos) (dM "list" (lstM pop0H) de dNone) := se_bm0 PySem.F.plainAttrs_list PySem.F.slot_list_pop PySem.F.type_list_pop mt_pop smf_pop ho hbase hline
def revH (ys xs : List Vl) : Option (Vl × List Vl) := match xs with
  | [] => some (.non, ys.reverse)
  | _ => none
theorem smf_rev {K : PySem.W.Frag} : SMF K (lstM revH) "list" rReverse := smf_lst fun ρ H a ys xs zs us vs z Q h1 h2 b e k => by
  unfold revH at e
  split at e
  · cases e
    rw [show vs = [] from b]
    exact ⟨a, us, rfl, rfl, h1, k _ _ rfl h2.reverse⟩
  · cases e
theorem se_reverse (ho : SE X o de) (hbase : attributeBase o "reverse" X.env (eval o X.env) = eval o X.env := by rfl) (hline : (apos.endLine == pos.line) = true := by rfl) :
    SE X (.Call (.Attribute o "reverse" apos) [] [] pos) (dM "list" (lstM revH) de dNone) := se_bm0 PySem.F.plainAttrs_list PySem.F.slot_list_reverse PySem.F.type_list_reverse mt_reverse smf_rev ho hbase hline
def clrH (ys xs : List Vl) : Option (Vl × List Vl) := match xs with
  | [] => some (.non, [])
  | _ => none
theorem smf_clr {K : PySem.W.Frag} : SMF K (lstM clrH) "list" rClear := smf_lst fun ρ H a ys xs zs us vs z Q h1 h2 b e k => by
  unfold clrH at e
  split at e
  · cases e
    rw [show vs = [] from b]
    exact ⟨a, us, rfl, rfl, h1, k _ _ rfl rfl⟩
  · cases e
/-- xs[i] = y -/
def gSetI (do' di : DE) : DG := fun x env m => match do' env m with
  | some (.ok (.obj n), m1) => (match di env m1 with
    | some (.ok (.int i), m2) => (match m2[n]? with
      | some (.lst ys) => (match ixN ys.length i with
        | some j => some (env, m2.set n (.lst (ys.set j x)))
        | none => none)
      | _ => none)
    | _ => none)
  | _ => none
theorem sg_setI {a b : Expr} {da db : DE} (ho : SE X a da) (hi : SE X b db)
    (ha : ∀ v, assign (.Subscript a b pos) X.env v = (do
      let ov ← holding [v] (eval a X.env)
      let iv ← holding [v, ov] (eval b X.env)
      standAt pos
      holding [v, ov, iv] (setItem ov iv v)
      release [v, ov, iv] []) := by intro _; rfl) : SG X (.Subscript a b pos) (gSetI da db) := ⟨fun W tk => impPG (pg_sub (ho.run W tk) (hi.run W tk) set_list ha) fun v σ H Q ⟨ρ, env, m, x, env', m', s, r, e, p⟩ => by
  unfold gSetI at e
  split at e
  · rename_i n m1 h1
    split at e
    · rename_i i m2 h2
      split at e
      · rename_i ys hy
        split at e
        · rename_i j hj
          cases e
          refine goE s h1 fun ρ1 H1 o1 s1 E1 r1 => goE s1 h2 fun ρ2 H2 i2 s2 E2 r2 => ?_
          obtain ⟨q, rfl, hq⟩ := RV.mono E2 _ r1
          obtain ⟨us, h3, h4⟩ := s2.mem.at_ _ _ _ hy hq
          have hset := h4.set j ((r.mono E1).mono E2)
          obtain ⟨M', E'⟩ := put_lst s2.mem hq hset
          exact ⟨q, us, i, j, rfl, r2, h3, by rw [← h4.length]; exact hj, p ρ2 _ σ (s2.to E' M') ((E1.trans E2).trans E')⟩
        · cases e
      · cases e
    · cases e
  · cases e⟩
end
end Z
namespace Z
open PySem PySem.Spec PyProof.Rows L2
/-! ### kinds of values: a built-in type, an own class -/
inductive TD where
  | b (n : String) | c (x : Str)
  deriving DecidableEq
def TD.val (K : PySem.W.Frag) : TD → Value
  | .b n => .type n
  | .c x => .ref (He.ga K x)
def tyD (m : Mem) : Vl → Option TD
  | .non => some (.b "NoneType")
  | .bl _ => some (.b "bool")
  | .int _ => some (.b "int")
  | .str _ => some (.b "str")
  | .tup _ => some (.b "tuple")
  | .lst _ => some (.b "list")
  | .frl _ => some (.b "list")
  | .dic _ => some (.b "dict")
  | .dit _ => some (.b "dict")
  | .ins c _ => some (.c c)
  | .obj n => (match m[n]? with
    | some (.lst _) => some (.b "list")
    | some (.dic _) => some (.b "dict")
    | some (.dit _) => some (.b "dict")
    | some (.ins c _) => some (.c c)
    | _ => none)
  | _ => none
/-- what isinstance and == ask of a class -/
structure InsT (K : PySem.W.Frag) (c : Str) : Prop where
  cl : Cls K (He.ga K c)
  ha : PySem.W.findIn K (.ref (He.ga K c)) "__class__" = some (some (.builtin "object.__class__"))
  hn : PySem.W.specialIn K (.builtin "object.__class__") "__get__" = some (some (.builtin "getset_descriptor.__get__"))
  ht : PySem.W.takesIn K (.builtin "object.__class__") = some true
  hm : PySem.W.mroIn K (He.ga K c) (.type "object") = some true
/-- of all classes whose instances come -/
def InsA (K : PySem.W.Frag) (cs : List Str) : Prop := ∀ c ∈ cs, InsT K c
def tdOk (cs : List Str) : TD → Bool
  | .b _ => true
  | .c x => cs.contains x
theorem tyD_ok {K : PySem.W.Frag} {ρ : Lay} {m : Mem} {H : Hp} {x : Vl} {v : V} {t : TD} {cs : List Str} (hI : InsA K cs) (M : RM K ρ m H) (a : RV K ρ H x v) (h : tyD m x = some t) (hc : tdOk cs t = true) : TyX K H v (t.val K) := by
  cases x with
  | non =>
    cases h
    rw [show v = _ from a]
    exact .base .non
  | bl b =>
    cases h
    rw [show v = _ from a]
    exact .base (.bl b)
  | int b =>
    cases h
    rw [show v = _ from a]
    exact .base (.int b)
  | str b =>
    cases h
    rw [show v = _ from a]
    exact .base (.str b)
  | tup xs =>
    cases h
    obtain ⟨p, vs, rfl, h1, _⟩ := a
    rcases h1 with ⟨_, h1 | ⟨o, h1⟩⟩ | ⟨o, its, n, h1, h2, _⟩
    · exact .base (.tup h1)
    · exact .fTuple h1
    · exact .kTuple h1 h2
  | lst xs =>
    cases h
    obtain ⟨p, vs, rfl, _, h1, _⟩ := a
    exact .base (.lst h1)
  | frl xs =>
    cases h
    obtain ⟨p, vs, rfl, h1, _⟩ := a
    rcases h1 with ⟨_, o, h1⟩ | ⟨o, its, n, h1, h2, _⟩
    · exact .base (.frz h1)
    · exact .kList h1 h2
  | dic xs =>
    cases h
    obtain ⟨p, vs, rfl, _, h1, _⟩ := a
    exact .base (.dK h1)
  | dit xs =>
    cases h
    obtain ⟨p, vs, rfl, _, h1, _⟩ := a
    exact .base (.dT h1)
  | ins c fs =>
    cases h
    obtain ⟨p, dx, vs, rfl, _, h1, _⟩ := a
    have i := hI c (by simpa [tdOk] using hc)
    exact .base (.ins h1 i.cl i.ha i.hn i.ht i.hm)
  | obj n =>
    obtain ⟨p, rfl, hp⟩ := a
    have h' : (match m[n]? with
      | some (.lst _) => some (TD.b "list")
      | some (.dic _) => some (.b "dict")
      | some (.dit _) => some (.b "dict")
      | some (.ins c _) => some (.c c)
      | _ => none) = some t := h
    split at h'
    · rename_i xs hx
      cases h'
      obtain ⟨vs, h1, _⟩ := M.at_ _ _ _ hx hp
      exact .base (.lst h1)
    · rename_i xs hx
      cases h'
      obtain ⟨vs, h1, _⟩ := M.at_ _ _ _ hx hp
      exact .base (.dK h1)
    · rename_i xs hx
      cases h'
      obtain ⟨vs, h1, _⟩ := M.at_ _ _ _ hx hp
      exact .base (.dT h1)
    · rename_i c xs hx
      cases h'
      obtain ⟨dx, vs, h1, _⟩ := M.at_ _ _ _ hx hp
      have i := hI c (by simpa [tdOk] using hc)
      exact .base (.ins h1 i.cl i.ha i.hn i.ht i.hm)
    · cases h'
  | _ => cases h
/-! ### isinstance -/
/-- which kinds are instances of which, as the table says -/
abbrev Kit := TD → TD → Option Bool
def KitOk (K : PySem.W.Frag) (kt : Kit) : Prop := ∀ t u b, kt t u = some b → PySem.W.kitOne K (t.val K) (u.val K) = some b
def clsD : Vl → Option TD
  | .ty n => some (.b n)
  | .glo x => some (.c x)
  | _ => none
theorem clsD_ok {K : PySem.W.Frag} {ρ : Lay} {H : Hp} {x : Vl} {v : V} {t : TD} (a : RV K ρ H x v) (h : clsD x = some t) : ClsV v (t.val K) := by
  cases x with
  | ty n =>
    cases h
    rw [show v = _ from a]
    exact .ty n
  | glo c =>
    cases h
    rw [show v = _ from a]
    exact .own _
  | _ => cases h
def clsDs : List Vl → Option (List TD)
  | [] => some []
  | x :: xs => (match clsD x with
    | some t => (match clsDs xs with
      | some ts => some (t :: ts)
      | none => none)
    | none => none)
theorem clsDs_ok {K : PySem.W.Frag} {ρ : Lay} {H : Hp} : ∀ {xs : List Vl} {vs : List V} {ts : List TD}, RVs K ρ H xs vs → clsDs xs = some ts → Paired ClsV vs (ts.map (TD.val K))
  | [], _, _, h, e => by
    cases e
    rw [show _ = [] from h]
    exact .nil
  | x :: xs, _, _, ⟨v, r, h1, h2, h3⟩, e => by
    unfold clsDs at e
    split at e
    · rename_i t ht
      split at e
      · rename_i ts hts
        cases e
        rw [h1]
        exact .cons (clsD_ok h2 ht) (clsDs_ok h3 hts)
      · cases e
    · cases e
def kitAnyD (kt : Kit) (t : TD) : List TD → Option Bool
  | [] => some false
  | u :: us => (match kt t u with
    | some true => some true
    | some false => kitAnyD kt t us
    | none => none)
theorem kitAnyD_ok {K : PySem.W.Frag} {kt : Kit} (hk : KitOk K kt) {t : TD} : ∀ {us : List TD} {b : Bool}, kitAnyD kt t us = some b → PySem.W.kitAny K (t.val K) (us.map (TD.val K)) = some b
  | [], b, e => by
    cases e
    exact kitAny_nil
  | u :: us, b, e => by
    unfold kitAnyD at e
    split at e
    · rename_i h
      cases e
      exact kitAny_cons (hk _ _ _ h) (fun q => nomatch q) fun _ => rfl
    · rename_i h
      exact kitAny_cons (hk _ _ _ h) (fun _ => kitAnyD_ok hk e) fun q => nomatch q
    · cases e
def isiF (cs : List Str) (kt : Kit) : FB := fun xs m => match xs with
  | [x, u] => (match tyD m x, clsD u with
    | some t, some t' => if tdOk cs t = true then (match kt t t' with
      | some b => some (.bl b, m)
      | none => none) else none
    | _, _ => none)
  | _ => none
theorem scf_isi {K : PySem.W.Frag} {cs : List Str} {kt : Kit} (hI : InsA K cs) (hk : KitOk K kt) : SCF K (isiF cs kt) (rIsi K) := fun ρ m H xs vs z m' Q M a e k => by
  unfold isiF at e
  split at e
  · rename_i x u
    split at e
    · rename_i t t' ht ht'
      split at e
      · rename_i hc
        split at e
        · rename_i b hb
          cases e
          obtain ⟨v, s, rfl, h1, v2, s2, rfl, h2, h3⟩ := a
          subst h3
          exact ⟨v, v2, _, _, b, rfl, clsD_ok h2 ht', tyD_ok hI M h1 ht hc, hk _ _ _ hb, k ρ H _ M .refl rfl⟩
        · cases e
      · cases e
    · cases e
  · cases e
section
variable {X : Cx} {x : Str} {p pos apos : Pos} {e a b o : Expr} {es : List Expr} {d : DA} {de da db : DE} {cs : List Str} {kt : Kit}
theorem se_isi (hI : InsA X.K cs) (hk : KitOk X.K kt) (hg : Gl X "isinstance") (hm : X.mg "isinstance" = none) (ha : SA X (e :: es) d) (he : starEach (e :: es) X.env = (false, eval e X.env) :: starEach es X.env := by rfl) (hpl : (backTo pos (starEach es X.env)).any (·.1) = false := by rfl) :
    SE X (.Call (.Name "isinstance" p) (e :: es) [] pos) (dB (isiF cs kt) d) := se_callB call_isi (scf_isi hI hk) hg hm (by decide +kernel) ha (by decide) (by decide) he hpl
def dIsiT (cs : List Str) (kt : Kit) (de : DE) (d : DA) : DE := fun env m => bindR (de env m) fun x m => bindR (d env m) fun us m => match tyD m x, clsDs us with
  | some t, some ts => if (tdOk cs t && decide (us.length ≤ sizeLine)) = true then (match kitAnyD kt t ts with
    | some b => some (.ok (.bl b), m)
    | none => none) else none
  | _, _ => none
theorem se_isiT {tk' : Nat} {tpos : Pos} (hI : InsA X.K cs) (hk : KitOk X.K kt) (hg : Gl X "isinstance") (hm : X.mg "isinstance" = none) (he : SE X e de) (ha : SA X es d)
    (hs : starEach [e, .Tuple es tk' tpos] X.env = (false, eval e X.env) :: starEach [.Tuple es tk' tpos] X.env := by rfl) (hs2 : starEach [.Tuple es tk' tpos] X.env = (false, eval (.Tuple es tk' tpos) X.env) :: starEach [] X.env := by rfl)
    (hpl : (backTo pos (starEach [.Tuple es tk' tpos] X.env)).any (·.1) = false := by rfl) : SE X (.Call (.Name "isinstance" p) [e, .Tuple es tk' tpos] [] pos) (dIsiT cs kt de d) := ⟨fun W tk =>
  impPE (pe_callB call_isiT hg hm (by decide +kernel) (pa_cons (he.run W tk) (pa_cons (pe_tup (ha.run W tk)) pa_nil hs2) hs) (by decide) (by decide) hs hpl) fun σ H Q ⟨ρ, env, m, z, m', s, e, p⟩ =>
    bindE s e p fun y m1 ρ1 H1 v s1 E1 r1 e1 p1 => bindA s1 e1 p1 fun us m2 ρ2 H2 vs s2 E2 r2 e2 p2 => by
      split at e2
      · rename_i t ts ht hts
        split at e2
        · rename_i hc
          rw [Bool.and_eq_true, decide_eq_true_eq] at hc
          split at e2
          · rename_i b hb
            cases e2
            refine ⟨by rw [← r2.length]; exact hc.2, fun q hq => ?_⟩
            have E3 : Ext ρ2 H2 ρ2 (upd H2 q (.tup vs)) := ext_new hq
            have M3 : RM X.K ρ2 _ (upd H2 q (.tup vs)) := s2.mem.laid hq
            exact ⟨v, q, vs, _, _, b, rfl, upd_same, clsDs_ok r2 hts, tyD_ok hI M3 ((r1.mono E2).mono E3) ht hc.1, kitAnyD_ok hk hb, p2 ρ2 _ M3 E3 _ rfl⟩
          · cases e2
        · cases e2
      · cases e2⟩
/-! ### == and != by an own method -/
/-- x op y, x an instance of the class c with the method at f; y of one of the kinds ts -/
def dCmpO (c : Str) (cs : List Str) (ts : List TD) (gz : List Vl → List Vl → List Vl) (g : FD) (da db : DE) : DE := fun env m => bindR (da env m) fun x m => bindR (db env m) fun y m => match insD m x, tyD m y with
  | some (c', _), some t => if (decide (c' = c) && (ts.contains t && tdOk cs t)) = true then g (gz [x, y] []) m else none
  | _, _ => none
structure OwnM (K : PySem.W.Frag) (c mn : Str) (f : Addr) (ts : List TD) : Prop where
  at_ : PySem.W.findIn K (.ref (He.ga K c)) mn = some (some (.ref f))
  fn : PySem.W.isFn K (.ref f) = true
  nf : ∀ t ∈ ts, PySem.W.notFirst K (He.ga K c) (t.val K) = true
variable {c mn : Str} {f : Addr} {ts : List TD} {k : Nat} {gz : List Vl → List Vl → List Vl} {g : FD}
/-- the rich comparison, somewhere below the running body -/
structure Sub (X : Cx) (n : Nat) (A : Around) : Prop where
  room : Room n A
  fr : A.frames = X.A.frames
theorem Sub.in1 {X : Cx} {n : Nat} {A : Around} (s : Sub X (n + 1) A) : Sub X n A.in1 := ⟨s.room.in1, s.fr⟩
theorem rc_own {op : CmpOp} {A : Around} {E : Value → Shared → Prop} (ho : (cmpInfo op).2.1 = mn) (hI : InsA X.K cs) (O : OwnM X.K c mn f ts) (F : Fz X.prog X.w X.K X.mg X.base k f 2 [] gz g) (sb : Sub X k A) {pins : List (Addr × Obj)} {σ : L2.St} {H : Hp} {s : Shared} {Q : Value → Shared → Prop} {EE : XK}
    {u : Value} {y : V} {q dx : Addr} {gs : List (Str × V)} {ρ : Lay} {m m' : Mem} {xv yv : Vl} {r : R Vl} {t : TD} (I : Inv X pins σ H s) (hq : H q = some (.ins (He.ga X.K c) dx gs)) (ry : RelV y u) (M : RM X.K ρ m H) (rx : RV X.K ρ H xv (.ref q)) (ryv : RV X.K ρ H yv y)
    (ht : tyD m yv = some t) (hts : ts.contains t = true) (htc : tdOk cs t = true) (e : g (gz [xv, yv] []) m = some (r, m')) (hE : ∀ e s', L2.CX X.prog X.w X.stack H s EE e s' → E e s')
    (p : ∀ ρ' H', RM X.K ρ' m' H' → Ext ρ H ρ' H' → match r with
      | .ok z => ∀ v w s', RV X.K ρ' H' z v → RelV v w → Inv X pins σ H' s' → Q w s'
      | .ex c fs => ∀ dd, XD X.K ρ' H' dd fs → EE (.ref (He.ga X.K c)) dd H') : wpAny (model X.prog X.w) A (richCompare op (.ref q) u) Q E s := by
  obtain ⟨fd, ps, gs', gV, h1, h2, h3⟩ := F.ex
  obtain ⟨mA, J, _⟩ := ins_get I.hok hq
  obtain ⟨od, J, _⟩ := J.look
  obtain ⟨m0, hF⟩ := I.fr
  obtain ⟨P, kx, hP, _⟩ := kit_of I ry (tyD_ok hI M ryv ht htc)
  have hl := kx.ty (model X.prog X.w) s.heap I.kIn hP
  refine PySem.W.cmp_K (op := op) (tb := t.val X.K) sb.room.units0 hF I.ok.mod.kin J hl (O.nf t (by simpa using hts)) (by rw [ho]; exact O.at_) O.fn ?_
  have e0 : Env0 X.prog X.w X.K X.mg X.base A X.stack s H := by
    have e := I.env0
    exact ⟨by rw [sb.fr]; exact e.frames, e.mod, e.bs, e.bsz, e.funs, e.frf, e.hok, e.bare⟩
  obtain ⟨hl2, rg⟩ := h3 ρ H [xv, yv] [.ref q, y] [] [] rfl rfl ⟨_, _, rfl, rx, _, _, rfl, ryv, rfl⟩ rfl
  have r1 : Vals [V.ref q, y] [Value.ref q, u] := .cons rfl (.cons ry .nil)
  have r2 := h2.rel r1 (.nil : Vals [] [])
  refine wpAny_call (codeAny_mono (h1.run A X.stack s H ⟨[.ref q, u], []⟩ (gs' [.ref q, u] []) (gV [.ref q, y] []) (fun v H' => ∃ ρ' z, r = .ok z ∧ RM X.K ρ' m' H' ∧ Ext ρ H ρ' H' ∧ RV X.K ρ' H' z v) EE sb.room e0 (h2.to s [.ref q, u] [] I.kIn rfl rfl) r2 ⟨hl2, ρ, m, _, r, m', M, rg, e, fun ρ' H' M' E' => ?_⟩) fun rr s' hq' => ?_)
  · have pp := p ρ' H' M' E'
    cases r with
    | ok z => exact fun v rv => ⟨ρ', z, rfl, M', E', rv⟩
    | ex c fs => exact pp
  · cases rr with
    | error er => exact hE er s' hq'
    | ok fl =>
      cases fl with
      | ret w =>
        obtain ⟨v, H', I', rv, ρ', z, rfl, M', E', rz⟩ := I.after hq'
        have pp := p ρ' H' M' E' v w s' rz rv I'
        show PySem.W.CmpBack Q w s'
        cases w with
        | notImplemented => cases v <;> first | (obtain ⟨_, hh⟩ := rv; cases hh) | cases rv
        | _ => exact pp
      | next => exact False.elim hq'
      | brk => exact False.elim hq'
      | cont => exact False.elim hq'
theorem se_cmpO {op : CmpOp} (ho : (cmpInfo op).2.1 = mn) (hop : ∀ a b, compareOp op a b = richCompare op a b) (hI : InsA X.K cs) (O : OwnM X.K c mn f ts) (F : Fz X.prog X.w X.K X.mg X.base k f 2 [] gz g) (hr : Room k X.A) (ha : SE X a da) (hb : SE X b db) (hm : behindInMarks op b = false) :
    SE X (.Compare a [op] [b] pos) (dCmpO c cs ts gz g da db) := ⟨fun W tk => ⟨fun pins s σ H Q I h => by
  obtain ⟨ρ, env, m, z, m', st, ee, pp⟩ := h
  refine wpAny_Compare1 ?_ hm
  have h' : rdE X.K W da σ H (fun v H1 => rdE X.K W db σ H1 fun u H2 => ∃ q dx gs ρ' m1 xv yv t, v = .ref q ∧ H2 q = some (.ins (He.ga X.K c) dx gs) ∧ RM X.K ρ' m1 H2 ∧ RV X.K ρ' H2 xv v ∧ RV X.K ρ' H2 yv u ∧ tyD m1 yv = some t ∧ ts.contains t = true ∧ tdOk cs t = true ∧ g (gz [xv, yv] []) m1 = some (z, m') ∧ Po X.K ρ' H2 (RV X.K) (fun c dd H' => W c dd σ H') Q z m') :=
    bindE st ee pp fun x m1 ρ1 H1 v s1 E1 r1 e1 p1 => bindE s1 e1 p1 fun y m2 ρ2 H2 u s2 E2 r2 e2 p2 => by
      split at e2
      · rename_i c' fs t hi ht
        split at e2
        · rename_i hc
          rw [Bool.and_eq_true, Bool.and_eq_true, decide_eq_true_eq] at hc
          obtain ⟨rfl, hc1, hc2⟩ := hc
          obtain ⟨q, dx, gs, rfl, h3, h4⟩ := insD_ok s2.mem (r1.mono E2) hi
          exact ⟨q, dx, gs, ρ2, m2, x, y, t, rfl, h3, s2.mem, r1.mono E2, r2, ht, hc1, hc2, e2, p2⟩
        · cases e2
      · cases e2
  refine thn ((ha.run W tk).run pins s σ H _ I h') fun v s1 ⟨x, H1, I1, rx, q1⟩ => ?_
  refine thn ((hb.run W tk).run pins s1 σ H1 _ I1 q1) fun u s2 ⟨y, H2, I2, ry, q, dx, gs, ρ2, m2, xv, yv, t, ex, hq, M2, rxv, ryv, ht, hts, htc, eg, p2⟩ => ?_
  subst ex
  obtain rfl : v = Value.ref q := rx
  rw [hop]
  refine rc_own (EE := fun c dd H' => W c dd σ H') ho hI O F ⟨hr, rfl⟩ I2 hq ry M2 rxv ryv ht hts htc eg (fun er s' hx => tk er s' (XE.of_call I2 (fun _ _ _ h => h) hx)) fun ρ' H' M' E' => ?_
  have p3 := p2 ρ' H' M' E'
  cases z with
  | ok z => exact fun v w s' rz rv I' => ⟨v, H', I', rv, p3 v rz⟩
  | ex c fs => exact p3⟩⟩
/-- the same as a test -/
theorem st_of_cmp {op : CmpOp} (hm : behindInMarks op b = false) (h : SE X (.Compare a [op] [b] pos) de) (he : ∀ whole, isTrue (.Compare a [op] [b] pos) X.env whole = (do let v ← whole; standAt pos; holding [v] (truthy v)) := by intro _; rfl) : True := trivial
theorem se_eqO (hI : InsA X.K cs) (O : OwnM X.K c "__eq__" f ts) (F : Fz X.prog X.w X.K X.mg X.base k f 2 [] gz g) (hr : Room k X.A) (ha : SE X a da) (hb : SE X b db) : SE X (.Compare a [.Eq] [b] pos) (dCmpO c cs ts gz g da db) := se_cmpO rfl (fun _ _ => rfl) hI O F hr ha hb (nomark _)
theorem se_neO (hI : InsA X.K cs) (O : OwnM X.K c "__ne__" f ts) (F : Fz X.prog X.w X.K X.mg X.base k f 2 [] gz g) (hr : Room k X.A) (ha : SE X a da) (hb : SE X b db) : SE X (.Compare a [.NotEq] [b] pos) (dCmpO c cs ts gz g da db) := se_cmpO rfl (fun _ _ => rfl) hI O F hr ha hb (nomark _)
end
end Z
namespace ZQ
open PySem PySem.SeqAt
open AutoSeq1 (wpAny_loadPart')
open MeetsSeq MeetsSeq2 MeetsSeq3 SeqRoads2
section
variable {prog : Program} {w : World} {A : Around} {R : Result → Shared → Prop}
/-- x in l: at each turn the list is read anew; F: found -/
def InI (prog : Program) (w : World) (A : Around) (E : Value → Shared → Prop) (l : Addr) (x : Value) (N : Nat) (I : Nat → Shared → Prop) (F : Shared → Prop) : Prop :=
  ∀ i s, I i s → ∃ (items : Array Value) (n : Nat) (dd : Option Addr) (sl : Array (Option Value)), s.heap.get? l = some { cls := .type "list", dict := dd, data := .seq items n, slots := sl } ∧ items.size = N ∧
    ∀ (h : i < items.size), wpAny (model prog w) A.in1 (eqBool items[i] x) (fun r s' => (r = true → F s') ∧ (r = false → I (i + 1) s')) E s
theorem in_loopZ (l : Addr) (x : Value) (N : Nat) (I : Nat → Shared → Prop) (F : Shared → Prop) (hl : InI prog w A (fun e s' => R (.error e) s') l x N I F) (fT : ∀ s', F s' → R (.ok (.ret (.bool true))) s') (fF : ∀ s', I N s' → R (.ok (.ret (.bool false))) s') (k : Nat) :
    ∀ i : Nat, N - i = k → i ≤ N → ∀ s, I i s →
      wpAny (model prog w) A.in1 (Builtin.«list.__contains__.loop» ⟨[.ref l, x, rawInt i], []⟩) (GQ.FinOf prog w A R) (fun e s' => R (.error e) s') s := by
  induction k with
  | zero =>
    intro i hk hi s h
    obtain ⟨items, n, dd, sl, hl1, hs1, _⟩ := hl _ _ h
    have hi' : i = N := by omega
    have hR := fF s (hi' ▸ h)
    obtain ⟨hp, g, d, tk, os⟩ := s
    wp_walk using wpAny_loadPart' hl1
    have hi1 : items[((i : Nat) : Int).toNat]? = none := by simp; omega
    rw [hi1]
    wp_walk
    exact hR
  | succ k ih =>
    intro i hk hi s h
    obtain ⟨items, n, dd, sl, hl1, hs1, turn⟩ := hl _ _ h
    have hlt : i < items.size := by omega
    have ht := turn hlt
    obtain ⟨hp, g, d, tk, os⟩ := s
    wp_walk using wpAny_loadPart' hl1
    have hi1 : items[((i : Nat) : Int).toNat]? = some items[i] := by simp [hlt]
    have hc : ((i : Int) + 1) = ((i + 1 : Nat) : Int) := by omega
    rw [hi1]
    refine wpAny_bind (wpAny_mono ht (fun r s2 h2 => ?_) fun _ _ x => x)
    cases r with
    | true =>
      have hR := fT s2 (h2.1 rfl)
      obtain ⟨hp2, g2, d2, tk2, os2⟩ := s2
      wp_walk
      exact hR
    | false =>
      have hrec := ih (i + 1) (by omega) (by omega) s2 (h2.2 rfl)
      obtain ⟨hp2, g2, d2, tk2, os2⟩ := s2
      wp_walk
      rw [hc]
      exact ⟨plainId_quiet plain_contains_loop _, codeAny_builtin entry_contains_loop (by
        rw [Around.under_plainId plain_contains_loop _]
        exact hrec)⟩
theorem list_inZ (l : Addr) (x : Value) (N : Nat) (I : Nat → Shared → Prop) (F : Shared → Prop) (hl : InI prog w A (fun e s' => R (.error e) s') l x N I F) (fT : ∀ s', F s' → R (.ok (.ret (.bool true))) s') (fF : ∀ s', I N s' → R (.ok (.ret (.bool false))) s') {s : Shared} (h : I 0 s) :
    wpAny (model prog w) A.in1 (Builtin.«list.__contains__» ⟨[.ref l, x], []⟩) (GQ.FinOf prog w A R) (fun e s' => R (.error e) s') s := by
  have hrec := in_loopZ (A := A) (R := R) l x N I F hl fT fF _ 0 rfl (Nat.zero_le _) s h
  obtain ⟨items, n, dd, sl, hl1, hs1, _⟩ := hl _ _ h
  obtain ⟨hp, g, d, tk, os⟩ := s
  wp_walk using wpAny_loadPart' hl1
  exact ⟨plainId_quiet plain_contains_loop _, codeAny_builtin entry_contains_loop (by
    rw [Around.under_plainId plain_contains_loop _]
    exact hrec)⟩
end
section
variable {prog : Program} {w : World} {A : Around} {E : Value → Shared → Prop} {s : Shared}
theorem contains_listZ {l : Addr} {x : Value} {N : Nat} {Q : Bool → Shared → Prop} (I : Nat → Shared → Prop) (G : Shared → Prop) (hl : InI prog w A E l x N I G) (fT : ∀ s', G s' → Q true s') (fF : ∀ s', I N s' → Q false s') (h : I 0 s) :
    wpAny (model prog w) A (contains (.ref l) x) Q E s := by
  obtain ⟨items, n, dd, sl, hl1, hs1, _⟩ := id (hl _ _ h)
  refine wpAny_contains_slot ⟨_, hl1, rfl⟩ F.slot_list_contains (wpAny_mono (GQ.call_here (Q := fun v s' => ∃ b, v = .bool b ∧ Q b s') F.slot_list_contains ⟨_, hl1, rfl⟩ F.entry_list_contains (F.args_list_contains_2 _ _)
    (list_inZ (R := wants (fun v s' => ∃ b, v = .bool b ∧ Q b s') E) l x N I G hl (fun s' q => ⟨true, rfl, fT s' q⟩) (fun s' q => ⟨false, rfl, fF s' q⟩) h)) (fun v s' hv => ?_) fun _ _ e => e)
  obtain ⟨b, rfl, hq⟩ := hv
  exact wpAny_truthy_bool hq
theorem in_listZ {l : Addr} {x : Value} {N : Nat} {Q : Value → Shared → Prop} (I : Nat → Shared → Prop) (G : Shared → Prop) (hl : InI prog w A E l x N I G) (fT : ∀ s', G s' → Q (.bool true) s') (fF : ∀ s', I N s' → Q (.bool false) s') (h : I 0 s) :
    wpAny (model prog w) A (compareOp .In x (.ref l)) Q E s := by
  show wpAny _ A (do return .bool (← contains (.ref l) x)) Q E s
  exact wpAny_bind (contains_listZ I G hl (fun s' q => wpAny_pure (fT s' q)) (fun s' q => wpAny_pure (fF s' q)) h)
theorem notIn_listZ {l : Addr} {x : Value} {N : Nat} {Q : Value → Shared → Prop} (I : Nat → Shared → Prop) (G : Shared → Prop) (hl : InI prog w A E l x N I G) (fT : ∀ s', G s' → Q (.bool false) s') (fF : ∀ s', I N s' → Q (.bool true) s') (h : I 0 s) :
    wpAny (model prog w) A (compareOp .NotIn x (.ref l)) Q E s := by
  show wpAny _ A (do return .bool (!(← contains (.ref l) x))) Q E s
  exact wpAny_bind (contains_listZ I G hl (fun s' q => wpAny_pure (fT s' q)) (fun s' q => wpAny_pure (fF s' q)) h)
/-- == inside a builtin of two values that are not the same -/
theorem eqBool_ne {u v : Value} {Q : Bool → Shared → Prop} (hne : u ≠ v) (hf : ∀ x t, u ≠ .float x t) (h : wpAny (model prog w) A (richCompare .Eq u v) (fun z s' => ∃ r, z = .bool r ∧ Q r s') E s) : wpAny (model prog w) A (eqBool u v) Q E s := by
  unfold eqBool
  refine wpAny_holding ?_
  refine wpAny_ite_split (fun hab => absurd (eq_of_beq hab) hne) (fun _ => ?_)
  have tail : wpAny (model prog w) A (do truthOfDropped (← richCompare .Eq u v)) Q E s := wpAny_bind (wpAny_mono h (fun z s' hv => by
    obtain ⟨r, rfl, q⟩ := hv
    exact wpAny_truthy_bool q) fun _ _ x => x)
  cases u with
  | float x t => exact absurd rfl (hf x t)
  | _ => exact tail
end
end ZQ
namespace Z
open PySem PySem.Spec PyProof.Rows L2
/-! ### == inside a built-in, the memory kept -/
def EQ (X : Cx) (k : Nat) (h : Vl → Vl → Mem → Option Bool) : Prop :=
  ∀ (A : Around) (pins : List (Addr × Obj)) (s : Shared) (σ : L2.St) (ρ : Lay) (m : Mem) (H : Hp) (x y : Vl) (a b : V) (u v : Value) (r : Bool), Sub X k A → Inv X pins σ H s → RelV a u → RelV b v → RM X.K ρ m H → RV X.K ρ H x a → RV X.K ρ H y b → h x y m = some r →
    wpAny (model X.prog X.w) A (eqBool u v) (fun q s' => q = r ∧ ∃ ρ' H', RM X.K ρ' m H' ∧ Ext ρ H ρ' H' ∧ Inv X pins σ H' s') X.xe s
def orQ (h h' : Vl → Vl → Mem → Option Bool) : Vl → Vl → Mem → Option Bool := fun x y m => match h x y m with
  | some r => some r
  | none => h' x y m
theorem eq_or {X : Cx} {k : Nat} {h h' : Vl → Vl → Mem → Option Bool} (a : EQ X k h) (b : EQ X k h') : EQ X k (orQ h h') := fun A pins s σ ρ m H x y va vb u v r sb I ra rb M rx ry e => by
  unfold orQ at e
  split at e
  · rename_i q hq
    cases e
    exact a A pins s σ ρ m H x y va vb u v r sb I ra rb M rx ry hq
  · exact b A pins s σ ρ m H x y va vb u v r sb I ra rb M rx ry e
/-- of data -/
def datQ : Vl → Vl → Mem → Option Bool := fun x y m => match toDm m x, toDm m y with
  | some d, some e => if (SeqAt.shaped d && SeqAt.shaped e) = true then some (PyData.eqv d e) else none
  | _, _ => none
theorem eq_dat {X : Cx} : EQ X 0 datQ := fun A pins s σ ρ m H x y a b u v r sb I ra rb M rx ry e => by
  unfold datQ at e
  split at e
  · rename_i d d' hd hd'
    split at e
    · rename_i c
      cases e
      rw [Bool.and_eq_true] at c
      obtain ⟨as, r1⟩ := Dp.reads I d a u (toDm_ok M rx hd) ra
      obtain ⟨bs, r2⟩ := Dp.reads I d' b v (toDm_ok M ry hd') rb
      exact SeqAt.eqAt_reads _ _ A s _ _ _ _ r1 r2 (SeqAt.canLay_of_shaped c.1) (SeqAt.canLay_of_shaped c.2) (SeqAt.room_of_shaped c.1 sb.room.units) X.prog X.w X.xe _ ⟨rfl, ρ, H, M, .refl, I⟩
    · cases e
  · cases e
/-- surely not the same object -/
def scD : Vl → Option V
  | .non => some .non
  | .bl b => some (.bl b)
  | .int i => some (.int i)
  | .str x => some (.str x)
  | _ => none
def scNe : V → V → Bool
  | .non, .non => false
  | .bl a, .bl b => a != b
  | .int a, .int b => a != b
  | .str a, .str b => a != b
  | .bl _, .non => true
  | .bl _, .int _ => true
  | .bl _, .str _ => true
  | .non, .bl _ => true
  | .non, .int _ => true
  | .non, .str _ => true
  | .int _, .non => true
  | .int _, .bl _ => true
  | .int _, .str _ => true
  | .str _, .non => true
  | .str _, .bl _ => true
  | .str _, .int _ => true
  | _, _ => false
theorem scNe_ok : ∀ {a : V}, scNe a a = true → False := fun {a} e => by
  cases a <;> simp [scNe] at e
def refD : Vl → Bool
  | .tup _ => true
  | .lst _ => true
  | .frl _ => true
  | .dic _ => true
  | .dit _ => true
  | .ins _ _ => true
  | .obj _ => true
  | .glo _ => true
  | .err _ _ => true
  | _ => false
def difS (x y : Vl) : Bool := match scD x, scD y with
  | some a, some b => scNe a b
  | some _, none => refD y
  | none, some _ => refD x
  | none, none => (match x, y with
    | .obj n, .obj k => n != k
    | _, _ => false)
def difI (m : Mem) (x y : Vl) : Bool := difS x y || (match insD m x, insD m y with
  | some (_, fs), some (_, gs) => fs.any fun p => match fs.lookup p.1, gs.lookup p.1 with
    | some v, some w => difS v w
    | _, _ => false
  | _, _ => false)
theorem scD_ok {K : PySem.W.Frag} {ρ : Lay} {H : Hp} {x : Vl} {v a : V} (r : RV K ρ H x v) (e : scD x = some a) : v = a ∧ ∀ p, v ≠ .ref p := by
  cases x with
  | non => cases e; have r' : v = .non := r; subst r'; exact ⟨rfl, fun p h => nomatch h⟩
  | bl b => cases e; have r' : v = .bl b := r; subst r'; exact ⟨rfl, fun p h => nomatch h⟩
  | int b => cases e; have r' : v = .int b := r; subst r'; exact ⟨rfl, fun p h => nomatch h⟩
  | str b => cases e; have r' : v = .str b := r; subst r'; exact ⟨rfl, fun p h => nomatch h⟩
  | _ => cases e
theorem refD_ok {K : PySem.W.Frag} {ρ : Lay} {H : Hp} {x : Vl} {v : V} (r : RV K ρ H x v) (e : refD x = true) : ∃ p, v = .ref p := by
  cases x with
  | tup _ => obtain ⟨a, _, h, _⟩ := r; exact ⟨a, h⟩
  | lst _ => obtain ⟨a, _, h, _⟩ := r; exact ⟨a, h⟩
  | frl _ => obtain ⟨a, _, h, _⟩ := r; exact ⟨a, h⟩
  | dic _ => obtain ⟨a, _, h, _⟩ := r; exact ⟨a, h⟩
  | dit _ => obtain ⟨a, _, h, _⟩ := r; exact ⟨a, h⟩
  | ins _ _ => obtain ⟨a, _, _, h, _⟩ := r; exact ⟨a, h⟩
  | obj _ => obtain ⟨a, h, _⟩ := r; exact ⟨a, h⟩
  | err _ _ => obtain ⟨a, _, _, h, _⟩ := r; exact ⟨a, h⟩
  | glo c => exact ⟨_, r⟩
  | _ => cases e
theorem difS_ok {K : PySem.W.Frag} {ρ : Lay} {m : Mem} {H : Hp} (M : RM K ρ m H) {x y : Vl} {v : V} (rx : RV K ρ H x v) (ry : RV K ρ H y v) (e : difS x y = true) : False := by
  unfold difS at e
  split at e
  · rename_i a b h1 h2
    obtain ⟨rfl, _⟩ := scD_ok rx h1
    obtain ⟨rfl, _⟩ := scD_ok ry h2
    exact scNe_ok e
  · rename_i a h1 h2
    obtain ⟨p, rfl⟩ := refD_ok ry e
    exact (scD_ok rx h1).2 p rfl
  · rename_i a h1 h2
    obtain ⟨p, rfl⟩ := refD_ok rx e
    exact (scD_ok ry h2).2 p rfl
  · split at e
    · rename_i n k _ _
      obtain ⟨a, rfl, h1⟩ := rx
      obtain ⟨b, h2, h3⟩ := ry
      cases h2
      exact M.ne h1 h3 (by simpa using e) rfl
    · cases e
theorem difI_ok {K : PySem.W.Frag} {ρ : Lay} {m : Mem} {H : Hp} (M : RM K ρ m H) {x y : Vl} {v : V} (rx : RV K ρ H x v) (ry : RV K ρ H y v) (e : difI m x y = true) : False := by
  unfold difI at e
  rw [Bool.or_eq_true] at e
  rcases e with e | e
  · exact difS_ok M rx ry e
  · split at e
    · rename_i c fs c' gs h1 h2
      obtain ⟨p, dx, f1, rfl, h3, h4⟩ := insD_ok M rx h1
      obtain ⟨p', dx', f2, h5, h6, h7⟩ := insD_ok M ry h2
      cases h5
      rw [h3] at h6
      have h8 := Option.some.inj h6
      injection h8 with _ _ h9
      subst h9
      obtain ⟨q, _, hq⟩ := List.any_eq_true.mp e
      split at hq
      · rename_i z w hz hw
        obtain ⟨a, e1, r1⟩ := h4.get hz
        obtain ⟨b, e2, r2⟩ := h7.get hw
        rw [e1] at e2
        cases e2
        exact difS_ok M r1 r2 hq
      · cases hq
    · cases e
/-- of instances by an own method; q: what it answers -/
def ownQ (c : Str) (cs : List Str) (ts : List TD) (q : Vl → Vl → Mem → Option Bool) : Vl → Vl → Mem → Option Bool := fun x y m => match insD m x, tyD m y with
  | some (c', _), some t => if (decide (c' = c) && (ts.contains t && tdOk cs t)) = true then (match q x y m with
    | some b => if (b || difI m x y) = true then some b else none
    | none => none) else none
  | _, _ => none
theorem eq_own {X : Cx} {k : Nat} {c : Str} {cs : List Str} {ts : List TD} {gz : List Vl → List Vl → List Vl} {g : FD} {q : Vl → Vl → Mem → Option Bool} {f : Addr} (hI : InsA X.K cs) (O : OwnM X.K c "__eq__" f ts) (F : Fz X.prog X.w X.K X.mg X.base k f 2 [] gz g)
    (hg : ∀ x y m b, q x y m = some b → g (gz [x, y] []) m = some (.ok (.bl b), m)) : EQ X k (ownQ c cs ts q) := fun A pins s σ ρ m H x y a b u v r sb I ra rb M rx ry e => by
  unfold ownQ at e
  split at e
  · rename_i c' fs t hi ht
    split at e
    · rename_i hc
      rw [Bool.and_eq_true, Bool.and_eq_true, decide_eq_true_eq] at hc
      obtain ⟨rfl, hc1, hc2⟩ := hc
      split at e
      · rename_i b0 hq
        split at e
        · rename_i hd
          cases e
          obtain ⟨p, dx, gs, rfl, h3, h4⟩ := insD_ok M rx hi
          obtain rfl : u = Value.ref p := ra
          by_cases hne : Value.ref p = v
          · subst hne
            have hb : b = .ref p := by
              cases b <;> first | (cases rb; rfl) | (obtain ⟨_, hh⟩ := rb; cases hh) | cases rb
            subst hb
            have hr : r = true := by
              cases r with
              | true => rfl
              | false => exact (difI_ok M rx ry hd).elim
            subst hr
            exact SeqAt.EqAt.same (A := A) (s := s) (.ref p) X.prog X.w X.xe _ ⟨rfl, ρ, H, M, .refl, I⟩
          · refine ZQ.eqBool_ne hne (fun _ _ h => nomatch h) (rc_own (op := .Eq) (EE := fun _ _ _ => False) rfl hI O F sb I h3 rb M rx ry ht hc1 hc2 (hg _ _ _ _ hq) (fun er s' hx => ?_) fun ρ' H' M' E' => ?_)
            · obtain ⟨_, _, _, _, _, _, _, _, _, _, _, _, z⟩ := hx
              exact z.elim
            · intro z w s' rz rw_ I'
              obtain rfl : z = .bl r := rz
              obtain rfl : w = Value.bool r := rw_
              exact ⟨r, rfl, rfl, ρ', H', M', E', I'⟩
        · cases e
      · cases e
    · cases e
  · cases e
/-! x in xs -/
def anyQ (h : Vl → Vl → Mem → Option Bool) (m : Mem) (x : Vl) : List Vl → Option Bool
  | [] => some false
  | y :: ys => (match h y x m with
    | some true => some true
    | some false => anyQ h m x ys
    | none => none)
def inQ (neg : Bool) (h : Vl → Vl → Mem → Option Bool) : F2 := fun x y m => match lisD m y with
  | some ys => (match anyQ h m x ys with
    | some b => some (.bl (if neg = true then !b else b), m)
    | none => none)
  | none => none
section
variable {X : Cx} {k : Nat} {h : Vl → Vl → Mem → Option Bool} {a b e : Expr} {da db : DE} {pos : Pos}
theorem in_run (hq : EQ X k h) (hr : Room (k + 1) X.A) {pins : List (Addr × Obj)} {σ : L2.St} {ρ : Lay} {H : Hp} {m : Mem} {s : Shared} {x y : Vl} {vx vy : V} {u v : Value} {ys : List Vl} {r : Bool} {Q : Bool → Shared → Prop}
    (I : Inv X pins σ H s) (M : RM X.K ρ m H) (rx : RV X.K ρ H x vx) (ry : RV X.K ρ H y vy) (ru : RelV vx u) (rv : RelV vy v) (hy : lisD m y = some ys) (hb : anyQ h m x ys = some r)
    (fin : ∀ ρ' H' s', RM X.K ρ' m H' → Ext ρ H ρ' H' → Inv X pins σ H' s' → Q r s') :
    ∃ l N J G, v = .ref l ∧ ZQ.InI X.prog X.w X.A X.xe l u N J G ∧ (∀ s', G s' → Q true s') ∧ (∀ s', J N s' → Q false s') ∧ J 0 s := by
  obtain ⟨l, vs0, rfl, hs0, hr0⟩ := lisD_ok M ry hy
  obtain rfl : v = Value.ref l := rv
  let St : Shared → Prop := fun s' => ∃ ρ' H', RM X.K ρ' m H' ∧ Ext ρ H ρ' H' ∧ Inv X pins σ H' s'
  refine ⟨l, ys.length, fun i s' => St s' ∧ anyQ h m x (ys.drop i) = some r, fun s' => St s' ∧ r = true, rfl, fun i s' q => ?_, fun s' q => ?_, fun s' q => ?_, ⟨⟨ρ, H, M, .refl, I⟩, hb⟩⟩
  · obtain ⟨⟨ρ1, H1, M1, E1, I1⟩, ha⟩ := q
    obtain ⟨l', vs, hl', hs, hrs⟩ := lisD_ok M1 (ry.mono E1) hy
    cases hl'
    obtain ⟨its, r1, e1, z1⟩ := I1.list hs
    obtain ⟨⟨cls, dd, data, sl⟩, n, h1, h2, _, h3⟩ := e1
    simp only at h2 h3
    subst h2 h3
    refine ⟨its.toArray, n, dd, sl, h1, by rw [List.size_toArray, ← r1.length, ← hrs.length], fun hlt => ?_⟩
    have hlt' : i < ys.length := by rw [hrs.length, r1.length]; simpa using hlt
    have hd : ys.drop i = ys[i] :: ys.drop (i + 1) := List.drop_eq_getElem_cons hlt'
    rw [hd] at ha
    unfold anyQ at ha
    obtain ⟨w, hw1, hw2⟩ := hrs.get (List.getElem?_eq_getElem hlt')
    obtain ⟨u1, hu1, ru1⟩ := r1.get hw1
    have hit : its.toArray[i] = u1 := by
      have h1' : i < its.length := by simpa using hlt
      rw [List.getElem?_eq_getElem h1'] at hu1
      simpa using Option.some.inj hu1
    rw [hit]
    split at ha
    · rename_i hh
      refine wpAny_mono (hq X.A.in1 pins s' σ ρ1 m H1 ys[i] x w vx u1 u true ⟨hr.in1, rfl⟩ I1 ru1 ru M1 hw2 (rx.mono E1) hh) (fun q s2 h2 => ?_) fun _ _ z => z
      obtain ⟨rfl, ρ2, H2, M2, E2, I2⟩ := h2
      exact ⟨fun _ => ⟨⟨ρ2, H2, M2, E1.trans E2, I2⟩, (Option.some.inj ha).symm⟩, fun z => nomatch z⟩
    · rename_i hh
      refine wpAny_mono (hq X.A.in1 pins s' σ ρ1 m H1 ys[i] x w vx u1 u false ⟨hr.in1, rfl⟩ I1 ru1 ru M1 hw2 (rx.mono E1) hh) (fun q s2 h2 => ?_) fun _ _ z => z
      obtain ⟨rfl, ρ2, H2, M2, E2, I2⟩ := h2
      exact ⟨(fun z => nomatch z), fun _ => ⟨⟨ρ2, H2, M2, E1.trans E2, I2⟩, ha⟩⟩
    · cases ha
  · obtain ⟨⟨ρ1, H1, M1, E1, I1⟩, rfl⟩ := q
    exact fin ρ1 H1 s' M1 E1 I1
  · obtain ⟨⟨ρ1, H1, M1, E1, I1⟩, ha⟩ := q
    rw [List.drop_length] at ha
    cases ha
    exact fin ρ1 H1 s' M1 E1 I1
/-- a comparison as a test -/
theorem isTrue_cmp {M : Model} {A : Around} {E : Value → Shared → Prop} {s : Shared} {l r : Expr} {op : CmpOp} {env : Env} {whole : Sem Value} {Q : Bool → Shared → Prop} (h : wpAny M A (eval (.Compare l [op] [r] pos) env) (fun v s' => ∃ k, v = .bool k ∧ Q k s') E s) (hm : behindInMarks op r = false) : wpAny M A (isTrue (.Compare l [op] [r] pos) env whole) Q E s := fun Γ p hΓ => by
  have h' := h Γ p hΓ
  simp only [eval_Compare1, markedBehindIn_of_false hm, Sem.wp_bind', Sem.wp_holding, Sem.wp_cmd_standAt, Sem.wp_operate] at h'
  simp only [isTrue_Compare1, markedBehindIn_of_false hm, Sem.wp_bind', Sem.wp_holding, Sem.wp_cmd_standAt, Sem.wp_operate]
  refine Sem.wp_mono M Γ _ (fun a p₁ s₁ h₁ => Sem.wp_mono M Γ _ (fun b p2 s₂ h₂ => Sem.wp_mono M Γ _ (fun c p₃ s₃ h₃ => ?_) (fun _ _ _ h' => h') _ _ h₂) (fun _ _ _ h' => h') _ _ h₁) (fun _ _ _ h' => h') _ _ h'
  obtain ⟨k, rfl, q⟩ := h₃
  exact wpAny_truthy_bool q Γ p₃ hΓ
theorem st_cmpE {op : CmpOp} {de : DE} (h : SE X (.Compare a [op] [b] pos) de) (hm : behindInMarks op b = false := by rfl) : ST X (.Compare a [op] [b] pos) (tB' de) := ⟨fun W tk => ⟨fun pins s σ H Q I x => by
  obtain ⟨ρ, env, m, z, m', s0, e, p⟩ := x
  have x' : rdE X.K W de σ H (fun v H1 => ∃ k, v = .bl k ∧ Q k H1) := bindE s0 e p fun x m1 ρ1 H1 v s1 E1 r1 e1 p1 => by
    split at e1
    · rename_i k
      cases e1
      exact ⟨k, r1, p1 ρ1 H1 s1.mem .refl k rfl⟩
    · cases e1
  refine isTrue_cmp (thn ((h.run W tk).run pins s σ H _ I x') fun u s1 ⟨x, H1, I1, rx, k, ex, q⟩ => ?_) hm
  subst ex
  exact ⟨k, rx, H1, I1, q⟩⟩⟩
theorem se_inQ (hq : EQ X k h) (hr : Room (k + 1) X.A) (ha : SE X a da) (hb : SE X b db) (hm : behindInMarks .In b = false := by rfl) : SE X (.Compare a [.In] [b] pos) (d2 (inQ false h) da db) := se_cmp (r := fun v u H Q => ∀ (pins : List (Addr × Obj)) (σ : L2.St) (s : Shared) (uv uu : Value), Inv X pins σ H s → RelV v uv → RelV u uu → wpAny (model X.prog X.w) X.A (compareOp .In uv uu) (EP X pins σ Q) X.xe s)
  (fun pins s σ H x y v u Q I rx ry hh => hh pins σ s v u I rx ry) (fun ρ m H x y v u z m' Q M rx ry e k2 pins σ s uv uu I r1 r2 => by
    unfold inQ at e
    split at e
    · rename_i ys hy
      split at e
      · rename_i r hb
        cases e
        obtain ⟨l, N, J, G, rfl, h1, h2, h3, h4⟩ := in_run (Q := fun r s' => EP X pins σ Q (.bool r) s') hq hr I M rx ry r1 r2 hy hb fun ρ' H' s' M' E' I' => ⟨.bl r, H', I', rfl, k2 ρ' H' _ M' E' rfl⟩
        exact ZQ.in_listZ J G h1 h2 h3 h4
      · cases e
    · cases e) ha hb hm
theorem se_notinQ (hq : EQ X k h) (hr : Room (k + 1) X.A) (ha : SE X a da) (hb : SE X b db) (hm : behindInMarks .NotIn b = false := by rfl) : SE X (.Compare a [.NotIn] [b] pos) (d2 (inQ true h) da db) := se_cmp (r := fun v u H Q => ∀ (pins : List (Addr × Obj)) (σ : L2.St) (s : Shared) (uv uu : Value), Inv X pins σ H s → RelV v uv → RelV u uu → wpAny (model X.prog X.w) X.A (compareOp .NotIn uv uu) (EP X pins σ Q) X.xe s)
  (fun pins s σ H x y v u Q I rx ry hh => hh pins σ s v u I rx ry) (fun ρ m H x y v u z m' Q M rx ry e k2 pins σ s uv uu I r1 r2 => by
    unfold inQ at e
    split at e
    · rename_i ys hy
      split at e
      · rename_i r hb
        cases e
        obtain ⟨l, N, J, G, rfl, h1, h2, h3, h4⟩ := in_run (Q := fun r s' => EP X pins σ Q (.bool (!r)) s') hq hr I M rx ry r1 r2 hy hb fun ρ' H' s' M' E' I' => ⟨.bl (!r), H', I', rfl, k2 ρ' H' _ M' E' rfl⟩
        exact ZQ.notIn_listZ J G h1 h2 h3 h4
      · cases e
    · cases e) ha hb hm
/-! ### repr -/
/-! a bound of a text's length, reckoned without the text -/
mutual
def shB : PyData → Nat
  | .list xs => shBs xs + 4
  | .tuple xs => shBs xs + 4
  | .none => 4
  | .bool _ => 5
  | .int i => (PyData.shown (.int i)).length
  | .str x => (PyData.shown (.str x)).length
  | .dict kvs => (PyData.shown (.dict kvs)).length
def shBs : List PyData → Nat
  | [] => 0
  | x :: xs => shB x + 2 + shBs xs
end
theorem textFrom_le : ∀ (ts : List Str) (k : Nat) (acc : Str), (textFrom k acc ts).length ≤ acc.length + piled ts
  | [], _, acc => Nat.le_add_right _ _
  | t :: r, k, acc => by
    have ih := textFrom_le r (k + 1) (acc ++ (if k > 0 then ", " else "" : String) ++ t)
    have e : (acc ++ (if k > 0 then ", " else "" : String) ++ t).length ≤ acc.length + 2 + t.length := by
      rw [strLen_append, strLen_append]
      split <;> exact Nat.add_le_add_right (Nat.add_le_add_left (by decide) _) _
    rw [piled_cons]
    show (textFrom (k + 1) _ r).length ≤ _
    omega
theorem listText_le (ts : List Str) : (listText ts).length ≤ piled ts + 4 := by
  have h := textFrom_le ts 0 "["
  have e1 : ((("[" : String) : Str)).length = 1 := rfl
  have e2 : ((("]" : String) : Str)).length = 1 := rfl
  unfold listText
  rw [strLen_append, e2]
  rw [e1] at h
  omega
theorem tupleText_le (ts : List Str) : (tupleText ts).length ≤ piled ts + 4 := by
  unfold tupleText
  rw [strLen_append, strLen_append]
  have e1 : ((("(" : String) : Str)).length = 1 := rfl
  have e3 : (((if ts.length == 1 then ",)" else ")" : String) : Str)).length ≤ 2 := by split <;> decide
  rw [e1]
  by_cases h : ts = []
  · subst h
    have : (Str.join ((", " : String) : Str) []).length = 0 := rfl
    simp only [piled_nil, this]
    omega
  · have := join_length_add ts h
    omega
mutual
theorem shown_le : ∀ d : PyData, d.shown.length ≤ shB d
  | .list xs => Nat.le_trans (listText_le _) (Nat.add_le_add_right (shownAll_le xs) 4)
  | .tuple xs => Nat.le_trans (tupleText_le _) (Nat.add_le_add_right (shownAll_le xs) 4)
  | .none => by show (PyData.shown .none).length ≤ 4; decide
  | .bool b => by cases b <;> (show (PyData.shown (.bool _)).length ≤ 5) <;> decide
  | .int i => Nat.le_refl _
  | .str x => Nat.le_refl _
  | .dict kvs => Nat.le_refl _
theorem shownAll_le : ∀ xs : List PyData, piled (PyData.shownAll xs) ≤ shBs xs
  | [] => Nat.le_refl _
  | x :: xs => by
    show piled (PyData.shown x :: PyData.shownAll xs) ≤ shB x + 2 + shBs xs
    rw [piled_cons]
    have h1 := shown_le x
    have h2 := shownAll_le xs
    omega
end
def reprF : FB := fun xs m => match xs with
  | [x] => (match toDm m x with
    | some d => if (PyData.showable d && !PyData.hasDict d && decide (d.depth ≤ 60) && decide (shB d ≤ sizeLine)) = true then some (.str d.shown, m) else none
    | none => none)
  | _ => none
theorem call_reprD (hr : Room 0 X.A) : CallR X (.builtin "repr") (fun xs H Q => ∃ x d, xs = [x] ∧ Dp X.K H x d ∧ PyData.showable d = true ∧ PyData.hasDict d = false ∧ d.depth ≤ 60 ∧ d.shown.length ≤ sizeLine ∧ Q (.str d.shown) H) := by
  intro pins s σ H xs us Q I r hh
  obtain ⟨x, d, rfl, hd, h1, h2, h3, h4, q⟩ := hh
  obtain ⟨u, rfl, ru⟩ := vals1 r
  have fin : ∀ {h' : Heap} {t tk : Tok}, (∀ b o, s.heap.get? b = some o → h'.get? b = some o) → EP X pins σ Q (.str d.shown t) { s with heap := h', toks := tk } := fun hk => ⟨.str d.shown, H, I.kept hk, ⟨_, rfl⟩, q⟩
  have huu := hr.units
  cases hd with
  | non =>
    cases ru
    rw [PyData.shown_none] at q h4
    exact PySem.P.repr_of_none ⟨.str _, H, I.tok _, ⟨_, rfl⟩, q⟩
  | bl b =>
    cases ru
    rw [PyData.shown_bool] at q h4
    exact PySem.P.repr_of_bool ⟨.str _, H, I.tok _, ⟨_, rfl⟩, q⟩
  | int i =>
    obtain ⟨t, rfl⟩ := ru
    rw [PyData.shown_int] at q h4
    exact PySem.P.repr_of_int (by simpa [PyData.showable] using h1) ⟨.str _, H, I.tok _, ⟨_, rfl⟩, q⟩
  | str y =>
    obtain ⟨t, rfl⟩ := ru
    rw [PyData.shown_str] at q h4
    exact PySem.P.repr_of_str ⟨.str _, H, I.tok _, ⟨_, rfl⟩, q⟩ h4
  | lst hs ha =>
    rename_i a vs ds
    obtain rfl : u = Value.ref a := ru
    obtain ⟨as, r1⟩ := Dp.reads I (.list ds) (.ref a) (.ref a) (.lst hs ha) rfl
    exact repr_of_reads' r1 h1 (fun e => by rw [h2] at e; cases e) hr.gd (by omega) (fun _ _ e => e) (fun h' t tk hk => fin hk) h4
  | tup hs ha =>
    rename_i a vs ds
    obtain rfl : u = Value.ref a := ru
    obtain ⟨as, r1⟩ := Dp.reads I (.tuple ds) (.ref a) (.ref a) (.tup hs ha) rfl
    exact repr_of_reads' r1 h1 (fun e => by rw [h2] at e; cases e) hr.gd (by omega) (fun _ _ e => e) (fun h' t tk hk => fin hk) h4
theorem scf_repr {K : PySem.W.Frag} : SCF K reprF (fun xs H Q => ∃ x d, xs = [x] ∧ Dp K H x d ∧ PyData.showable d = true ∧ PyData.hasDict d = false ∧ d.depth ≤ 60 ∧ d.shown.length ≤ sizeLine ∧ Q (.str d.shown) H) := fun ρ m H xs vs z m' Q M a e k => by
  unfold reprF at e
  split at e
  · rename_i x
    split at e
    · rename_i d hd
      split at e
      · rename_i c
        cases e
        simp only [Bool.and_eq_true, Bool.not_eq_true', decide_eq_true_eq] at c
        obtain ⟨v, s, rfl, h1, h2⟩ := a
        subst h2
        exact ⟨v, d, rfl, toDm_ok M h1 hd, c.1.1.1, c.1.1.2, c.1.2, Nat.le_trans (shown_le d) c.2, k ρ H _ M .refl rfl⟩
      · cases e
    · cases e
  · cases e
theorem se_repr {p pos : Pos} {es : List Expr} {e : Expr} {d : DA} (hr : Room 0 X.A) (hg : Gl X "repr") (hm : X.mg "repr" = none) (ha : SA X (e :: es) d) (he : starEach (e :: es) X.env = (false, eval e X.env) :: starEach es X.env := by rfl) (hpl : (backTo pos (starEach es X.env)).any (·.1) = false := by rfl) :
    SE X (.Call (.Name "repr" p) (e :: es) [] pos) (dB reprF d) := se_callB (call_reprD hr) scf_repr hg hm (by decide +kernel) ha (by decide) (by decide) he hpl
/-! ### constants of classes -/
def dCV (c : Str) (y : Vl) (de : DE) : DE := fun env m => bindR (de env m) fun x m => match x with
  | .glo c' => if c' = c then some (.ok y, m) else none
  | _ => none
theorem se_cval {c f : Str} {mc : Value} {y : Vl} {v : V} {u : Value} {de : DE} (he : SE X e de) (r : ClX.CRead X.K (He.ga X.K c) mc) (kv : ClX.CVal X.K (He.ga X.K c) mc f v u) (ry : ∀ ρ H, RV X.K ρ H y v) (hab : attributeBase e f X.env (eval e X.env) = eval e X.env := by rfl) : SE X (.Attribute e f pos) (dCV c y de) := ⟨fun W tk =>
  impPE (ClX.pe_cval (he.run W tk) hab) fun σ H Q ⟨ρ, env, m, z, m', s, e, p⟩ => bindE s e p fun x m1 ρ1 H1 w s1 E1 r1 e1 p1 => by
    split at e1
    · rename_i c'
      split at e1
      · rename_i hc
        subst hc
        cases e1
        exact ⟨_, mc, v, u, r1, r, kv, p1 ρ1 H1 s1.mem .refl v (ry _ _)⟩
      · cases e1
    · cases e1⟩
end
end Z
namespace Z
open PySem PySem.Spec PyProof.Rows L2
/-! ### a call in a memory of its own: what it makes is told as values, but for the kept cells -/
def mapO {α β : Type} (f : α → Option β) : List α → Option (List β)
  | [] => some []
  | x :: xs => (match f x with
    | some y => (match mapO f xs with
      | some ys => some (y :: ys)
      | none => none)
    | none => none)
def mapP {κ α β : Type} (f : α → Option β) : List (κ × α) → Option (List (κ × β))
  | [] => some []
  | (k, x) :: xs => (match f x with
    | some y => (match mapP f xs with
      | some ys => some ((k, y) :: ys)
      | none => none)
    | none => none)
def posN (n : Nat) : List Nat → Option Nat
  | [] => none
  | k :: ks => if n = k then some 0 else (match posN n ks with
    | some i => some (i + 1)
    | none => none)
def cnv (keep : List Nat) (b : Nat) (m : Mem) : Nat → Vl → Option Vl
  | 0, _ => none
  | f + 1, x => (match x with
    | .obj n => (match posN n keep with
      | some i => some (.obj (b + i))
      | none => (match m[n]? with
        | some (.lst xs) => (mapO (cnv keep b m f) xs).map .lst
        | some (.dic xs) => (mapP (cnv keep b m f) xs).map .dic
        | some (.dit xs) => (mapP (cnv keep b m f) xs).map .dit
        | some (.ins c xs) => (mapP (cnv keep b m f) xs).map (.ins c)
        | none => none))
    | .tup xs => (mapO (cnv keep b m f) xs).map .tup
    | .lst xs => (mapO (cnv keep b m f) xs).map .lst
    | .frl xs => (mapO (cnv keep b m f) xs).map .frl
    | .dic xs => (mapP (cnv keep b m f) xs).map .dic
    | .dit xs => (mapP (cnv keep b m f) xs).map .dit
    | .ins c xs => (mapP (cnv keep b m f) xs).map (.ins c)
    | .err c xs => (mapP (cnv keep b m f) xs).map (.err c)
    | y => some y)
def cnvC (keep : List Nat) (b : Nat) (m : Mem) (f : Nat) : Cell → Option Cell
  | .lst xs => (mapO (cnv keep b m f) xs).map .lst
  | .dic xs => (mapP (cnv keep b m f) xs).map .dic
  | .dit xs => (mapP (cnv keep b m f) xs).map .dit
  | .ins c xs => (mapP (cnv keep b m f) xs).map (.ins c)
section
variable {K : PySem.W.Frag} {ρ ρ1 ρ' : Lay} {H H1 : Hp} {m m1 : Mem} {keep : List Nat} {b : Nat}
/-- how the new layout stands to the callee's -/
structure Tel (ρ1 ρ' : Lay) (H1 : Hp) (keep : List Nat) (b : Nat) : Prop where
  hz : ∀ a, a ∈ ρ1.z → a ∈ ρ'.z ∧ a ∉ ρ'.c
  hk : ∀ n i a, posN n keep = some i → ρ1.c[n]? = some a → ρ'.c[b + i]? = some a
  hn : ∀ n a, posN n keep = none → ρ1.c[n]? = some a → a ∈ ρ'.z ∧ a ∉ ρ'.c
  ht : ∀ a u, H1 a = some u → a ∈ ρ'.c → cellK u = true
theorem map_some {α β : Type} {f : α → β} {o : Option α} {y : β} (h : o.map f = some y) : ∃ x, o = some x ∧ y = f x := by
  cases o with
  | none => cases h
  | some x => cases h; exact ⟨x, rfl, rfl⟩
theorem rvs_map {g : Vl → Option Vl} (ih : ∀ (x y : Vl) (v : V), g x = some y → RV K ρ1 H1 x v → RV K ρ' H1 y v) : ∀ {xs ys : List Vl} {vs : List V}, mapO g xs = some ys → RVs K ρ1 H1 xs vs → RVs K ρ' H1 ys vs
  | [], _, _, e, r => by cases e; exact r
  | x :: xs, _, _, e, ⟨v, r, h1, h2, h3⟩ => by
    unfold mapO at e
    split at e
    · rename_i y hy
      split at e
      · rename_i ys hys
        cases e
        exact ⟨v, r, h1, ih _ _ _ hy h2, rvs_map ih hys h3⟩
      · cases e
    · cases e
theorem rks_map {g : Vl → Option Vl} (ih : ∀ (x y : Vl) (v : V), g x = some y → RV K ρ1 H1 x v → RV K ρ' H1 y v) : ∀ {xs ys : List (Key × Vl)} {vs : List (Key × V)}, mapP g xs = some ys → RKs K ρ1 H1 xs vs → RKs K ρ' H1 ys vs
  | [], _, _, e, r => by cases e; exact r
  | (k, x) :: xs, _, _, e, ⟨v, r, h1, h2, h3⟩ => by
    unfold mapP at e
    split at e
    · rename_i y hy
      split at e
      · rename_i ys hys
        cases e
        exact ⟨v, r, h1, ih _ _ _ hy h2, rks_map ih hys h3⟩
      · cases e
    · cases e
theorem rts_map {g : Vl → Option Vl} (ih : ∀ (x y : Vl) (v : V), g x = some y → RV K ρ1 H1 x v → RV K ρ' H1 y v) : ∀ {xs ys : List (List Key × Vl)} {vs : List (List Key × V)}, mapP g xs = some ys → RTs K ρ1 H1 xs vs → RTs K ρ' H1 ys vs
  | [], _, _, e, r => by cases e; exact r
  | (k, x) :: xs, _, _, e, ⟨v, r, h1, h2, h3⟩ => by
    unfold mapP at e
    split at e
    · rename_i y hy
      split at e
      · rename_i ys hys
        cases e
        exact ⟨v, r, h1, ih _ _ _ hy h2, rts_map ih hys h3⟩
      · cases e
    · cases e
theorem rfs_map {g : Vl → Option Vl} (ih : ∀ (x y : Vl) (v : V), g x = some y → RV K ρ1 H1 x v → RV K ρ' H1 y v) : ∀ {xs ys : List (Str × Vl)} {vs : List (Str × V)}, mapP g xs = some ys → RFs K ρ1 H1 xs vs → RFs K ρ' H1 ys vs
  | [], _, _, e, r => by cases e; exact r
  | (k, x) :: xs, _, _, e, ⟨v, r, h1, h2, h3⟩ => by
    unfold mapP at e
    split at e
    · rename_i y hy
      split at e
      · rename_i ys hys
        cases e
        exact ⟨v, r, h1, ih _ _ _ hy h2, rfs_map ih hys h3⟩
      · cases e
    · cases e
theorem cnv_ok (T : Tel ρ1 ρ' H1 keep b) (M : RM K ρ1 m1 H1) : ∀ (f : Nat) (x y : Vl) (v : V), cnv keep b m1 f x = some y → RV K ρ1 H1 x v → RV K ρ' H1 y v
  | 0, _, _, _, e, _ => by cases e
  | f + 1, x, y, v, e, r => by
    have ih := cnv_ok T M f
    have nt : ∀ {a : Addr} {u : HO}, Rd H1 a u → (∀ o, cellK (.frz o u) = false) → cellK u = false → a ∉ ρ'.c := fun {a u} h1 h2 h3 hc => by
      rcases h1 with h1 | ⟨o, h1⟩
      · rw [T.ht a u h1 hc] at h3; cases h3
      · have := T.ht a _ h1 hc; rw [h2 o] at this; cases this
    unfold cnv at e
    cases x with
    | obj n =>
      obtain ⟨a, rfl, ha⟩ := r
      simp only at e
      split at e
      · rename_i i hi
        cases e
        exact ⟨a, rfl, T.hk n i a hi ha⟩
      · rename_i hi
        obtain ⟨q1, q2⟩ := T.hn n a hi ha
        split at e
        · rename_i xs hx
          obtain ⟨ys, h1, rfl⟩ := map_some e
          obtain ⟨vs, h2, h3⟩ := M.at_ _ _ _ hx ha
          exact ⟨a, vs, rfl, ⟨q1, q2⟩, h2, rvs_map ih h1 h3⟩
        · rename_i xs hx
          obtain ⟨ys, h1, rfl⟩ := map_some e
          obtain ⟨vs, h2, h3⟩ := M.at_ _ _ _ hx ha
          exact ⟨a, vs, rfl, ⟨q1, q2⟩, h2, rks_map ih h1 h3⟩
        · rename_i xs hx
          obtain ⟨ys, h1, rfl⟩ := map_some e
          obtain ⟨vs, h2, h3⟩ := M.at_ _ _ _ hx ha
          exact ⟨a, vs, rfl, ⟨q1, q2⟩, h2, rts_map ih h1 h3⟩
        · rename_i c xs hx
          obtain ⟨ys, h1, rfl⟩ := map_some e
          obtain ⟨dx, vs, h2, h3⟩ := M.at_ _ _ _ hx ha
          exact ⟨a, dx, vs, rfl, ⟨q1, q2⟩, h2, rfs_map ih h1 h3⟩
        · cases e
    | tup xs =>
      obtain ⟨ys, h1, rfl⟩ := map_some e
      obtain ⟨a, vs, rfl, h2, h3⟩ := r
      exact ⟨a, vs, rfl, h2.elim (fun h => .inl ⟨nt h.2 (fun _ => rfl) rfl, h.2⟩) .inr, rvs_map ih h1 h3⟩
    | frl xs =>
      obtain ⟨ys, h1, rfl⟩ := map_some e
      obtain ⟨a, vs, rfl, h2, h3⟩ := r
      refine ⟨a, vs, rfl, h2.elim (fun h => .inl ⟨fun hc => ?_, h.2⟩) .inr, rvs_map ih h1 h3⟩
      obtain ⟨o, ho⟩ := h.2
      have := T.ht a _ ho hc
      cases this
    | lst xs =>
      obtain ⟨ys, h1, rfl⟩ := map_some e
      obtain ⟨a, vs, rfl, n, h2, h3⟩ := r
      exact ⟨a, vs, rfl, T.hz a n.1, h2, rvs_map ih h1 h3⟩
    | dic xs =>
      obtain ⟨ys, h1, rfl⟩ := map_some e
      obtain ⟨a, vs, rfl, n, h2, h3⟩ := r
      exact ⟨a, vs, rfl, T.hz a n.1, h2, rks_map ih h1 h3⟩
    | dit xs =>
      obtain ⟨ys, h1, rfl⟩ := map_some e
      obtain ⟨a, vs, rfl, n, h2, h3⟩ := r
      exact ⟨a, vs, rfl, T.hz a n.1, h2, rts_map ih h1 h3⟩
    | ins c xs =>
      obtain ⟨ys, h1, rfl⟩ := map_some e
      obtain ⟨a, dx, vs, rfl, n, h2, h3⟩ := r
      exact ⟨a, dx, vs, rfl, T.hz a n.1, h2, rfs_map ih h1 h3⟩
    | non => cases e; exact r
    | bl _ => cases e; exact r
    | int _ => cases e; exact r
    | str _ => cases e; exact r
    | ty _ => cases e; exact r
    | glo _ => cases e; exact r
    | err c xs =>
      obtain ⟨ys, h1, rfl⟩ := map_some e
      obtain ⟨a, d, gs, rfl, n, h2, h3, h4⟩ := r
      refine ⟨a, d, gs, rfl, fun hc => ?_, h2, h3.elim (fun ⟨dd, q1, q2, q3⟩ => .inl ⟨dd, q1, fun hc => ?_, q3⟩) .inr, rfs_map ih h1 h4⟩
      · have := T.ht a _ h2 hc
        cases this
      · have := T.ht dd _ q3 hc
        cases this
theorem cnvC_ok (T : Tel ρ1 ρ' H1 keep b) (M : RM K ρ1 m1 H1) {f : Nat} {a : Addr} : ∀ {c c' : Cell}, cnvC keep b m1 f c = some c' → RC K ρ1 H1 a c → RC K ρ' H1 a c'
  | .lst xs, _, e, ⟨vs, h1, h2⟩ => by
    obtain ⟨ys, h3, rfl⟩ := map_some e
    exact ⟨vs, h1, rvs_map (cnv_ok T M f) h3 h2⟩
  | .dic xs, _, e, ⟨vs, h1, h2⟩ => by
    obtain ⟨ys, h3, rfl⟩ := map_some e
    exact ⟨vs, h1, rks_map (cnv_ok T M f) h3 h2⟩
  | .dit xs, _, e, ⟨vs, h1, h2⟩ => by
    obtain ⟨ys, h3, rfl⟩ := map_some e
    exact ⟨vs, h1, rts_map (cnv_ok T M f) h3 h2⟩
  | .ins c xs, _, e, ⟨dx, vs, h1, h2⟩ => by
    obtain ⟨ys, h3, rfl⟩ := map_some e
    exact ⟨dx, vs, h1, rfs_map (cnv_ok T M f) h3 h2⟩
theorem RC.kind {a : Addr} : ∀ {c : Cell}, RC K ρ H a c → ∃ u, H a = Option.some u ∧ cellK u = true
  | .lst _, ⟨_, h, _⟩ => ⟨_, h, rfl⟩
  | .dic _, ⟨_, h, _⟩ => ⟨_, h, rfl⟩
  | .dit _, ⟨_, h, _⟩ => ⟨_, h, rfl⟩
  | .ins _ _, ⟨_, _, h, _⟩ => ⟨_, h, rfl⟩
theorem RM.kind (M : RM K ρ m H) {a : Addr} (ha : a ∈ ρ.c) : ∃ u, H a = Option.some u ∧ cellK u = true := by
  obtain ⟨n, hn⟩ := List.mem_iff_getElem?.mp ha
  have hl : n < m.length := by rw [← M.len]; exact (List.getElem?_eq_some_iff.mp hn).1
  exact RC.kind (M.at_ n m[n] a (by simp [hl]) hn)
theorem posN_some : ∀ {keep : List Nat} {n i : Nat}, posN n keep = some i → keep[i]? = some n
  | [], _, _, e => by cases e
  | k :: ks, n, i, e => by
    unfold posN at e
    split at e
    · rename_i h
      cases e
      rw [h]
      rfl
    · split at e
      · rename_i j hj
        cases e
        have := posN_some hj
        simpa using this
      · cases e
theorem posN_none : ∀ {keep : List Nat} {n : Nat}, posN n keep = none → n ∉ keep
  | [], _, _ => by simp
  | k :: ks, n, e => by
    unfold posN at e
    split at e
    · cases e
    · rename_i h
      split at e
      · cases e
      · rename_i hj
        intro z
        rcases List.mem_cons.mp z with z | z
        · exact h z
        · exact posN_none hj z
/-- the cells that are kept -/
def cellsK (keep : List Nat) (b : Nat) (m1 : Mem) (fu : Nat) : Option (List Cell) := mapO (fun n => match m1[n]? with
  | some c => cnvC keep b m1 fu c
  | none => none) keep
theorem mapO_len {α β : Type} {f : α → Option β} : ∀ {xs : List α} {ys : List β}, mapO f xs = some ys → ys.length = xs.length
  | [], _, e => by cases e; rfl
  | x :: xs, _, e => by
    unfold mapO at e
    split at e
    · split at e
      · rename_i ys hys
        cases e
        rw [List.length_cons, List.length_cons, mapO_len hys]
      · cases e
    · cases e
theorem mapO_get {α β : Type} {f : α → Option β} : ∀ {xs : List α} {ys : List β} {i : Nat} {y : β}, mapO f xs = some ys → ys[i]? = some y → ∃ x, xs[i]? = some x ∧ f x = some y
  | [], _, _, _, e, h => by cases e; simp at h
  | x :: xs, _, i, y, e, h => by
    unfold mapO at e
    split at e
    · rename_i z hz
      split at e
      · rename_i ys hys
        cases e
        cases i with
        | zero =>
          simp at h
          subst h
          exact ⟨x, rfl, hz⟩
        | succ i => exact mapO_get (i := i) hys (by simpa using h)
      · cases e
    · cases e
theorem mapO_dom {α β : Type} {f : α → Option β} : ∀ {xs : List α} {ys : List β} {x : α}, mapO f xs = some ys → x ∈ xs → ∃ y, f x = some y
  | [], _, _, _, h => nomatch h
  | z :: xs, _, x, e, h => by
    unfold mapO at e
    split at e
    · rename_i y hy
      split at e
      · rename_i ys hys
        rcases List.mem_cons.mp h with rfl | h
        · exact ⟨y, hy⟩
        · exact mapO_dom hys h
      · cases e
    · cases e
theorem fresh_lay {cs : List Cell} {fu : Nat} (M : RM K ρ m H) (M1 : RM K ρ1 m1 H1) (E : Ext ⟨[], ρ.z⟩ H ρ1 H1) (nd : keep.Nodup) (hc : cellsK keep m.length m1 fu = some cs) :
    ∃ ρ', RM K ρ' (m ++ cs) H1 ∧ Ext ρ H ρ' H1 ∧ Tel ρ1 ρ' H1 keep m.length := by
  have valid : ∀ n, n ∈ keep → ∃ c, m1[n]? = some c := fun n hn => by
    obtain ⟨y, hy⟩ := mapO_dom hc hn
    split at hy
    · rename_i c hc'
      exact ⟨c, hc'⟩
    · cases hy
  have adr : ∀ n, n ∈ keep → ρ1.c[n]? = some (ρ1.c.getD n 0) := fun n hn => by
    obtain ⟨c, h⟩ := valid n hn
    obtain ⟨a, ha⟩ := M1.adr h
    rw [List.getD_eq_getElem?_getD, ha]
    rfl
  let kept := keep.map fun n => ρ1.c.getD n 0
  have kin : ∀ a, a ∈ kept → a ∈ ρ1.c := fun a ha => by
    obtain ⟨n, hn, rfl⟩ := List.mem_map.mp ha
    exact List.mem_of_getElem? (adr n hn)
  have knd : kept.Nodup := by
    show (keep.map _).Nodup
    rw [List.Nodup, List.pairwise_map]
    refine List.Pairwise.imp_of_mem (fun {x y} hx hy hne he => ?_) nd
    exact M1.ne (adr x hx) (adr y hy) hne he
  have new1 : ∀ a, a ∈ ρ1.c → H a = none := fun a ha => (E.oldc a ha).elim (fun h => nomatch h) id
  have cin : ∀ a, a ∈ ρ.c → H a ≠ none := fun a ha => by
    obtain ⟨o, ho⟩ := M.some ha
    rw [ho]
    exact fun h => nomatch h
  have kpt : ∀ a o, H a = some o → H1 a = some o := fun a o ha => E.keep a o ha (fun h => nomatch h)
  have zout : ∀ a, a ∈ ρ1.z → a ∉ ρ.c := fun a ha hc => by
    rcases E.oldz a ha with h | h
    · exact (M.zt a h).1 hc
    · exact cin a hc h
  have mk : ∀ a, a ∈ kept ↔ a ∈ keep.map fun n => ρ1.c.getD n 0 := fun a => Iff.rfl
  have memz : ∀ a, a ∈ ((ρ1.z ++ ρ1.c).filter fun a => !kept.contains a) ↔ (a ∈ ρ1.z ∨ a ∈ ρ1.c) ∧ a ∉ kept := by
    intro a
    rw [List.mem_filter, List.mem_append]
    simp
  have E' : Ext ρ H ⟨ρ.c ++ kept, (ρ1.z ++ ρ1.c).filter fun a => !kept.contains a⟩ H1 := by
    refine ⟨List.prefix_append _ _, fun a ha => (memz a).mpr ⟨.inl (E.zin a ha), fun hk => ?_⟩, fun a o h _ => kpt a o h, fun a o h => ⟨o, kpt a o h⟩, fun a ha => ?_, fun a ha => ?_⟩
    · obtain ⟨o, ho⟩ := (M.zt a ha).2
      rw [new1 a (kin a hk)] at ho
      cases ho
    · rcases List.mem_append.mp ha with h | h
      · exact .inl h
      · exact .inr (new1 a (kin a h))
    · rcases ((memz a).mp ha).1 with h | h
      · exact E.oldz a h
      · exact .inr (new1 a h)
  have T : Tel ρ1 ⟨ρ.c ++ kept, (ρ1.z ++ ρ1.c).filter fun a => !kept.contains a⟩ H1 keep m.length := by
    refine ⟨fun a ha => ⟨(memz a).mpr ⟨.inl ha, fun hk => (M1.zt a ha).1 (kin a hk)⟩, fun hc => ?_⟩, fun n i a hi ha => ?_, fun n a hi ha => ⟨(memz a).mpr ⟨.inr (List.mem_of_getElem? ha), fun hk => ?_⟩, fun hc => ?_⟩, fun a u hu hc => ?_⟩
    · rcases List.mem_append.mp hc with h | h
      · exact zout a ha h
      · exact (M1.zt a ha).1 (kin a h)
    · have hk := posN_some hi
      show (ρ.c ++ kept)[m.length + i]? = some a
      rw [← M.len, List.getElem?_append_right (Nat.le_add_right _ _), Nat.add_sub_cancel_left]
      show (keep.map _)[i]? = some a
      rw [List.getElem?_map, hk]
      rw [adr n (List.mem_of_getElem? hk)] at ha
      exact ha
    · obtain ⟨n', hn', e⟩ := List.mem_map.mp hk
      have h1 := adr n' hn'
      rw [e] at h1
      by_cases q : n = n'
      · subst q
        exact posN_none hi hn'
      · exact M1.ne ha h1 q rfl
    · rcases List.mem_append.mp hc with h | h
      · exact cin a h (new1 a (List.mem_of_getElem? ha))
      · obtain ⟨n', hn', e⟩ := List.mem_map.mp h
        have h1 := adr n' hn'
        rw [e] at h1
        by_cases q : n = n'
        · subst q
          exact posN_none hi hn'
        · exact M1.ne ha h1 q rfl
    · rcases List.mem_append.mp hc with h | h
      · obtain ⟨u', h1, h2⟩ := M.kind h
        rw [kpt a u' h1] at hu
        cases hu
        exact h2
      · obtain ⟨u', h1, h2⟩ := M1.kind (kin a h)
        rw [h1] at hu
        cases hu
        exact h2
  refine ⟨⟨ρ.c ++ kept, (ρ1.z ++ ρ1.c).filter fun a => !kept.contains a⟩, ⟨?_, ?_, fun n c a h1 h2 => ?_, fun a ha => ?_⟩, E', T⟩
  · show (ρ.c ++ kept).Nodup
    rw [List.nodup_append]
    exact ⟨M.nd, knd, fun a ha b hb e => by subst e; exact cin a ha (new1 a (kin a hb))⟩
  · show (ρ.c ++ kept).length = (m ++ cs).length
    rw [List.length_append, List.length_append, M.len, mapO_len hc, List.length_map]
  · by_cases hn : n < m.length
    · rw [List.getElem?_append_left hn] at h1
      have h2' : (ρ.c ++ kept)[n]? = some a := h2
      rw [List.getElem?_append_left (by rw [M.len]; exact hn)] at h2'
      exact (M.at_ n c a h1 h2').mono E' (fun o ho => kpt a o ho)
    · have hn' : m.length ≤ n := Nat.le_of_not_lt hn
      rw [List.getElem?_append_right hn'] at h1
      have h2' : (ρ.c ++ kept)[n]? = some a := h2
      rw [List.getElem?_append_right (by rw [M.len]; exact hn'), M.len] at h2'
      obtain ⟨q, hq1, hq2⟩ := mapO_get hc h1
      have h3 : (keep.map fun n => ρ1.c.getD n 0)[n - m.length]? = some a := h2'
      rw [List.getElem?_map, hq1] at h3
      have h4 : ρ1.c.getD q 0 = a := Option.some.inj h3
      have h5 := adr q (List.mem_of_getElem? hq1)
      rw [h4] at h5
      split at hq2
      · rename_i c0 hc0
        exact cnvC_ok T M1 hq2 (M1.at_ q c0 a hc0 h5)
      · cases hq2
  · obtain ⟨h1, h2⟩ := (memz a).mp ha
    refine ⟨fun hc => ?_, h1.elim (fun h => (M1.zt a h).2) fun h => M1.some h⟩
    rcases List.mem_append.mp hc with h | h
    · rcases h1 with h1 | h1
      · exact zout a h1 h
      · exact cin a h (new1 a h1)
    · exact h2 h
/-- the callee's view: no cell of the caller -/
theorem RM.empty (M : RM K ρ m H) : RM K ⟨[], ρ.z⟩ [] H := ⟨List.nodup_nil, rfl, fun n c a h _ => by simp at h, fun a ha => ⟨(fun h => nomatch h), (M.zt a ha).2⟩⟩
mutual
theorem RV.alone : ∀ (x : Vl) {v : V}, RV K ρ H x v → clo 0 x = true → RV K ⟨[], ρ.z⟩ H x v
  | .non, _, h, _ => h
  | .bl _, _, h, _ => h
  | .int _, _, h, _ => h
  | .str _, _, h, _ => h
  | .ty _, _, h, _ => h
  | .glo _, _, h, _ => h
  | .tup xs, _, ⟨a, vs, h1, h2, h3⟩, c => ⟨a, vs, h1, h2.elim (fun h => .inl ⟨(fun z => nomatch z), h.2⟩) .inr, RVs.alone xs h3 c⟩
  | .lst xs, _, ⟨a, vs, h1, n, h2, h3⟩, c => ⟨a, vs, h1, ⟨n.1, (fun z => nomatch z)⟩, h2, RVs.alone xs h3 c⟩
  | .frl xs, _, ⟨a, vs, h1, h2, h3⟩, c => ⟨a, vs, h1, h2.elim (fun h => .inl ⟨(fun z => nomatch z), h.2⟩) .inr, RVs.alone xs h3 c⟩
  | .dic xs, _, ⟨a, vs, h1, n, h2, h3⟩, c => ⟨a, vs, h1, ⟨n.1, (fun z => nomatch z)⟩, h2, RKs.alone xs h3 c⟩
  | .dit xs, _, ⟨a, vs, h1, n, h2, h3⟩, c => ⟨a, vs, h1, ⟨n.1, (fun z => nomatch z)⟩, h2, RTs.alone xs h3 c⟩
  | .ins _ fs, _, ⟨a, dx, gs, h1, n, h2, h3⟩, c => ⟨a, dx, gs, h1, ⟨n.1, (fun z => nomatch z)⟩, h2, RFs.alone fs h3 c⟩
  | .obj n, _, _, c => absurd (of_decide_eq_true (show decide (n < 0) = true from c)) (Nat.not_lt_zero n)
  | .err _ fs, _, ⟨a, d, gs, h1, n, h2, h3, h4⟩, c => ⟨a, d, gs, h1, (fun z => nomatch z), h2, h3.elim (fun ⟨dd, q1, q2, q3⟩ => .inl ⟨dd, q1, (fun z => nomatch z), q3⟩) .inr, RFs.alone fs h4 c⟩
theorem RVs.alone : ∀ (xs : List Vl) {vs : List V}, RVs K ρ H xs vs → cloL 0 xs = true → RVs K ⟨[], ρ.z⟩ H xs vs
  | [], _, h, _ => h
  | x :: xs, _, ⟨v, r, h1, h2, h3⟩, c => ⟨v, r, h1, RV.alone x h2 (and2 c).1, RVs.alone xs h3 (and2 c).2⟩
theorem RKs.alone : ∀ (xs : List (Key × Vl)) {vs : List (Key × V)}, RKs K ρ H xs vs → cloK 0 xs = true → RKs K ⟨[], ρ.z⟩ H xs vs
  | [], _, h, _ => h
  | (_, x) :: xs, _, ⟨v, r, h1, h2, h3⟩, c => ⟨v, r, h1, RV.alone x h2 (and2 c).1, RKs.alone xs h3 (and2 c).2⟩
theorem RTs.alone : ∀ (xs : List (List Key × Vl)) {vs : List (List Key × V)}, RTs K ρ H xs vs → cloT 0 xs = true → RTs K ⟨[], ρ.z⟩ H xs vs
  | [], _, h, _ => h
  | (_, x) :: xs, _, ⟨v, r, h1, h2, h3⟩, c => ⟨v, r, h1, RV.alone x h2 (and2 c).1, RTs.alone xs h3 (and2 c).2⟩
theorem RFs.alone : ∀ (xs : List (Str × Vl)) {vs : List (Str × V)}, RFs K ρ H xs vs → cloF 0 xs = true → RFs K ⟨[], ρ.z⟩ H xs vs
  | [], _, h, _ => h
  | (_, x) :: xs, _, ⟨v, r, h1, h2, h3⟩, c => ⟨v, r, h1, RV.alone x h2 (and2 c).1, RFs.alone xs h3 (and2 c).2⟩
end
/-- what is kept as a cell: nothing; what is handed back -/
def kNone : Vl → List Nat := fun _ => []
def kTop : Vl → List Nat
  | .obj n => [n]
  | _ => []
def freshR (keep : Vl → List Nat) (fu : Nat) (m : Mem) : Option (R Vl × Mem) → Option (R Vl × Mem)
  | some (.ok x, m1) => if (keep x).Nodup then (match cnv (keep x) m.length m1 fu x, cellsK (keep x) m.length m1 fu with
    | some y, some cs => some (.ok y, m ++ cs)
    | _, _ => none) else none
  | some (.ex c fs, m1) => (match mapP (cnv [] m.length m1 fu) fs with
    | some gs => some (.ex c gs, m)
    | none => none)
  | none => none
def freshF (keep : Vl → List Nat) (fu : Nat) (g : FD) : FD := fun xs m => if cloL 0 xs = true then freshR keep fu m (g xs []) else none
def freshG (keep : Vl → List Nat) (fu : Nat) (gd : List Vl → List Vl → Mem → Option (R Vl × Mem)) : List Vl → List Vl → Mem → Option (R Vl × Mem) := fun xs ys m => if (cloL 0 xs && cloL 0 ys) = true then freshR keep fu m (gd xs ys []) else none
theorem fresh_po {W : Value → Option Addr → Hp → Prop} {Q : VK} {kf : Vl → List Nat} {fu : Nat} {g : Option (R Vl × Mem)} {r : R Vl} {m' : Mem} (M : RM K ρ m H) (e : freshR kf fu m g = some (r, m')) (p : Po K ρ H (RV K) W Q r m') :
    ∃ r1 m1, g = some (r1, m1) ∧ Po K ⟨[], ρ.z⟩ H (RV K) W Q r1 m1 := by
  unfold freshR at e
  split at e
  · rename_i x m1
    split at e
    · rename_i hnd
      split at e
      · rename_i y cs hy hcs
        cases e
        refine ⟨_, _, rfl, fun ρ1 H1 M1 E1 v rv => ?_⟩
        obtain ⟨ρ', M', E', T⟩ := fresh_lay M M1 E1 hnd hcs
        exact p ρ' H1 M' E' v (cnv_ok T M1 _ _ _ _ hy rv)
      · cases e
    · cases e
  · rename_i c fs m1
    split at e
    · rename_i gs hg
      cases e
      refine ⟨_, _, rfl, fun ρ1 H1 M1 E1 dd x => ?_⟩
      obtain ⟨ρ', M', E', T⟩ := fresh_lay (keep := []) (cs := []) (fu := fu) M M1 E1 List.nodup_nil rfl
      rw [List.append_nil] at M'
      refine p ρ' H1 M' E' dd ?_
      cases dd with
      | none =>
        have hf : fs = [] := x
        subst hf
        cases hg
        exact rfl
      | some d =>
        obtain ⟨gv, x1, x2, x3⟩ := x
        refine ⟨gv, x1, fun hc => ?_, rfs_map (cnv_ok T M1 fu) hg x3⟩
        have := T.ht d _ x1 hc
        cases this
    · cases e
  · cases e
theorem freshF_sp {g : FD} {kf : Vl → List Nat} {fu n : Nat} (vs : List V) (H : Hp) (Q : VK) (E : XK) (h : spZ K n (freshF kf fu g) vs H Q E) : spZ K n g vs H Q E := by
  obtain ⟨hl, ρ, m, xs, r, m', M, rx, e, p⟩ := h
  unfold freshF at e
  split at e
  · rename_i hc
    obtain ⟨r1, m1, hg, p1⟩ := fresh_po M e p
    exact ⟨hl, ⟨[], ρ.z⟩, [], xs, r1, m1, M.empty, RVs.alone xs rx hc, hg, p1⟩
  · cases e
end
section
variable {X : Cx} {k n : Nat} {f : Addr} {ks : List Str} {gz : List Vl → List Vl → List Vl} {g : FD} {gd : List Vl → List Vl → Mem → Option (R Vl × Mem)}
theorem Fz.fresh {P : Program} {w : World} {K : PySem.W.Frag} {mg : Str → Option Value} {base : Heap} (F : Fz P w K mg base k f n ks gz g) (kf : Vl → List Nat) (fu : Nat) : Fz P w K mg base k f n ks gz (freshF kf fu g) := by
  obtain ⟨fd, ps, gs, gV, h1, h2, h3⟩ := F.ex
  exact ⟨fd, ps, gs, gV, h1.imp fun vs H Q E h => freshF_sp vs H Q E h, h2, h3⟩
theorem Runs.fresh (R : Z.Runs X f n ks gd) (kf : Vl → List Nat) (fu : Nat) : Z.Runs X f n ks (freshG kf fu gd) := fun {W} tk {pins σ H s Q us ws vs zs ρ m m' xs ys r} I a b M rx ry hn hk e p => by
  unfold freshG at e
  split at e
  · rename_i hc
    rw [Bool.and_eq_true] at hc
    obtain ⟨r1, m1, hg, p1⟩ := fresh_po M e p
    exact R tk I a b M.empty (RVs.alone xs rx hc.1) (RVs.alone ys ry hc.2) hn hk hg p1
  · cases e
/-- a call told by what it answers -/
theorem Runs.imp {gd' : List Vl → List Vl → Mem → Option (R Vl × Mem)} (R : Z.Runs X f n ks gd) (q : ∀ xs ys m r m', xs.length = n → ys.length = ks.length → gd' xs ys m = some (r, m') → gd xs ys m = some (r, m')) : Z.Runs X f n ks gd' := by
  intro W tk pins σ H s Q us ws vs zs ρ m m' xs ys r I a b M rx ry hn hk e p
  exact R tk I a b M rx ry hn hk (q _ _ _ _ _ hn hk e) p
theorem Fz.impE {P : Program} {w : World} {K : PySem.W.Frag} {mg : Str → Option Value} {base : Heap} {g' : FD} (F : Fz P w K mg base k f n ks gz g) (q : ∀ xs m r, g' xs m = some r → g xs m = some r) : Fz P w K mg base k f n ks gz g' := by
  obtain ⟨fd, ps, gs, gV, h1, h2, h3⟩ := F.ex
  exact ⟨fd, ps, gs, gV, h1.imp fun vs H Q E h => spZ_imp (fun xs m r _ => q xs m r) vs H Q E h, h2, h3⟩
end
end Z
namespace Z
open PySem PySem.Spec PyProof.Rows L2
/-! ### where arguments come from -/
inductive Src where
  | a (i : Nat) | d (i : Nat) | m (i : Nat) | k (i : Nat)
def Src.at_ {α : Type} (us its mv ws : List α) : Src → Option α
  | .a i => us[i]?
  | .d i => its[i]?
  | .m i => mv[i]?
  | .k i => ws[i]?
def pickL {α : Type} (S : List Src) (us its mv ws : List α) : List α := S.filterMap (Src.at_ us its mv ws)
def Src.lt (n d m k : Nat) : Src → Bool
  | .a i => decide (i < n)
  | .d i => decide (i < d)
  | .m i => decide (i < m)
  | .k i => decide (i < k)
theorem Src.some {α : Type} {us its mv ws : List α} {s : Src} (h : s.lt us.length its.length mv.length ws.length = true) : ∃ x, s.at_ us its mv ws = Option.some x := by
  cases s with
  | a i => exact ⟨_, List.getElem?_eq_getElem (of_decide_eq_true (show decide (i < us.length) = true from h))⟩
  | d i => exact ⟨_, List.getElem?_eq_getElem (of_decide_eq_true (show decide (i < its.length) = true from h))⟩
  | m i => exact ⟨_, List.getElem?_eq_getElem (of_decide_eq_true (show decide (i < mv.length) = true from h))⟩
  | k i => exact ⟨_, List.getElem?_eq_getElem (of_decide_eq_true (show decide (i < ws.length) = true from h))⟩
theorem pick_len {α : Type} {us its mv ws : List α} : ∀ {S : List Src}, S.all (Src.lt us.length its.length mv.length ws.length) = true → (pickL S us its mv ws).length = S.length
  | [], _ => rfl
  | s :: S, h => by
    rw [List.all_cons, Bool.and_eq_true] at h
    obtain ⟨x, hx⟩ := Src.some h.1
    unfold pickL
    rw [List.filterMap_cons, hx]
    show (x :: pickL S us its mv ws).length = _
    rw [List.length_cons, List.length_cons, pick_len h.2]
theorem vals_at {α β : Type} {Rel : α → β → Prop} {vs : List α} {us : List β} (hl : vs.length = us.length) (hg : ∀ (i : Nat) (v : α), vs[i]? = some v → ∃ u, us[i]? = some u ∧ Rel v u) (i : Nat) : (vs[i]? = none ∧ us[i]? = none) ∨ ∃ v u, vs[i]? = some v ∧ us[i]? = some u ∧ Rel v u := by
  cases e : vs[i]? with
  | none => exact .inl ⟨rfl, by rw [List.getElem?_eq_none_iff] at e ⊢; omega⟩
  | some v =>
    obtain ⟨u, h1, h2⟩ := hg i v e
    exact .inr ⟨v, u, rfl, h1, h2⟩
theorem pick_vals {vs ds mz zs : List V} {us its mv ws : List Value} (a : Vals vs us) (b : Vals ds its) (c : Vals mz mv) (d : Vals zs ws) : ∀ S : List Src, Vals (pickL S vs ds mz zs) (pickL S us its mv ws)
  | [] => .nil
  | s :: S => by
    have ih := pick_vals a b c d S
    have key : (s.at_ vs ds mz zs = none ∧ s.at_ us its mv ws = none) ∨ ∃ v u, s.at_ vs ds mz zs = some v ∧ s.at_ us its mv ws = some u ∧ RelV v u := by
      cases s with
      | a i => exact vals_at a.length (fun i v h => a.get h) i
      | d i => exact vals_at b.length (fun i v h => b.get h) i
      | m i => exact vals_at c.length (fun i v h => c.get h) i
      | k i => exact vals_at d.length (fun i v h => d.get h) i
    unfold pickL
    rw [List.filterMap_cons, List.filterMap_cons]
    rcases key with ⟨h1, h2⟩ | ⟨v, u, h1, h2, r⟩
    · rw [h1, h2]; exact ih
    · rw [h1, h2]; exact .cons r ih
theorem pick_rvs {K : PySem.W.Frag} {ρ : Lay} {H : Hp} {xs dz mz ys : List Vl} {vs ds ms zs : List V} (a : RVs K ρ H xs vs) (b : RVs K ρ H dz ds) (c : RVs K ρ H mz ms) (d : RVs K ρ H ys zs) : ∀ S : List Src, RVs K ρ H (pickL S xs dz mz ys) (pickL S vs ds ms zs)
  | [] => rfl
  | s :: S => by
    have ih := pick_rvs a b c d S
    have key : (s.at_ xs dz mz ys = none ∧ s.at_ vs ds ms zs = none) ∨ ∃ x v, s.at_ xs dz mz ys = some x ∧ s.at_ vs ds ms zs = some v ∧ RV K ρ H x v := by
      cases s with
      | a i => exact vals_at a.length (fun i v h => a.get h) i
      | d i => exact vals_at b.length (fun i v h => b.get h) i
      | m i => exact vals_at c.length (fun i v h => c.get h) i
      | k i => exact vals_at d.length (fun i v h => d.get h) i
    unfold pickL
    rw [List.filterMap_cons, List.filterMap_cons]
    rcases key with ⟨h1, h2⟩ | ⟨x, v, h1, h2, r⟩
    · rw [h1, h2]; exact ih
    · rw [h1, h2]; exact ⟨v, _, rfl, r, ih⟩
section
variable {P : Program} {w : World} {K : PySem.W.Frag} {mg : Str → Option Value} {base : Heap} {x qual : Str} {params : Arguments} {body : List Stmt} {scope : Scope} {dvs : List V} {kws : List (Str × V)} {f : Addr} {fd : FuncData} {ps : List Str} {k : Nat} {g : FD}
/-- no defaults are asked for -/
theorem fz1 (F : FunD K x qual params body scope [] kws f fd) (G : FnOk P w K mg base (L2.CX P w) k f fd ps (spZ K ps.length g)) (n : Nat) (ks : List Str) (S : List Src)
    (h : ∀ (kV doc pm : Value) (an : Option Addr) (cdv ct : Value) (us ws : List Value), us.length = n → ws.length = ks.length → bindArgs (PySem.W.fnOf x qual params body scope .none kV doc pm an cdv ct) ⟨us, ks.zip ws⟩ = pure (ps.zip (pickL S us [] [] ws)))
    (hl : S.length = ps.length := by rfl) (hS : S.all (Src.lt n 0 0 ks.length) = true := by rfl) : Fz P w K mg base k f n ks (fun xs ys => pickL S xs [] [] ys) g := by
  obtain ⟨oc, od, dV, kV, doc, pm, an, cdv, ct, osl, rfl, lk, hcd, hD, hK⟩ := F.ex
  rcases hD with ⟨_, rfl⟩ | ⟨e, _⟩
  · refine ⟨_, ps, fun us ws => pickL S us [] [] ws, fun vs zs => pickL S vs [] [] zs, G, ⟨fun s us ws _ l1 l2 => .of_eq (h kV doc pm an cdv ct us ws l1 l2), fun a b => pick_vals a .nil .nil b S⟩, fun ρ H xs vs ys zs l1 l2 a b => ⟨?_, pick_rvs a (show RVs K ρ H [] [] from rfl) (show RVs K ρ H [] [] from rfl) b S⟩⟩
    rw [← hl]
    refine pick_len ?_
    rw [← a.length, ← b.length, l1, l2]
    exact hS
  · exact absurd rfl e
/-- positional defaults, no keyword-only default is asked for -/
theorem fz2 (F : FunD K x qual params body scope dvs kws f fd) (G : FnOk P w K mg base (L2.CX P w) k f fd ps (spZ K ps.length g)) (n : Nat) (ks : List Str) (S : List Src) (dz : List Vl) (hz : ∀ ρ H, RVs K ρ H dz dvs) (hd : dvs ≠ [])
    (h : ∀ (T : Addr) (kV doc pm : Value) (an : Option Addr) (cdv ct : Value) (us its ws : List Value), us.length = n → its.length = dvs.length → ws.length = ks.length →
      ∃ k, bindArgs (PySem.W.fnOf x qual params body scope (.ref T) kV doc pm an cdv ct) ⟨us, ks.zip ws⟩ = seqItems? (.ref T) >>= k ∧ k (some its.toArray) = pure (ps.zip (pickL S us its [] ws)))
    (hl : S.length = ps.length) (hS : S.all (Src.lt n dvs.length 0 ks.length) = true) : Fz P w K mg base k f n ks (fun xs ys => pickL S xs dz [] ys) g := by
  obtain ⟨its, B⟩ := F.kbindsD n ks (fun {α} us its ws => pickL S us its [] ws) hd (fun a b c => pick_vals a b .nil c S) h
  refine ⟨fd, ps, _, _, G, B, fun ρ H xs vs ys zs l1 l2 a b => ⟨?_, pick_rvs a (hz ρ H) (show RVs K ρ H [] [] from rfl) b S⟩⟩
  rw [← hl]
  refine pick_len ?_
  rw [← a.length, ← b.length, l1, l2]
  exact hS
/-- keyword-only defaults, no positional ones -/
theorem fz3 (F : FunD K x qual params body scope [] kws f fd) (G : FnOk P w K mg base (L2.CX P w) k f fd ps (spZ K ps.length g)) (n : Nat) (ks : List Str) (ms : List (Str × V)) (S : List Src) (mz : List Vl) (hz : ∀ ρ H, RVs K ρ H mz (ms.map (·.2))) (hk : kws ≠ []) (hms : ∀ q ∈ ms, q ∈ kws)
    (h : ∀ (D : Addr) (doc pm : Value) (an : Option Addr) (cdv ct : Value) (us mv ws : List Value), us.length = n → mv.length = ms.length → ws.length = ks.length →
      KwChain D ((ms.map (·.1)).zip mv) (bindArgs (PySem.W.fnOf x qual params body scope .none (.ref D) doc pm an cdv ct) ⟨us, ks.zip ws⟩) (ps.zip (pickL S us [] mv ws)))
    (hl : S.length = ps.length) (hS : S.all (Src.lt n 0 ms.length ks.length) = true) : Fz P w K mg base k f n ks (fun xs ys => pickL S xs [] mz ys) g := by
  obtain ⟨mv, B⟩ := F.kbinds0 n ks ms (fun {α} us mv ws => pickL S us [] mv ws) hk hms (fun a b c => pick_vals a .nil b c S) h
  refine ⟨fd, ps, _, _, G, B, fun ρ H xs vs ys zs l1 l2 a b => ⟨?_, pick_rvs a (show RVs K ρ H [] [] from rfl) (hz ρ H) b S⟩⟩
  rw [← hl]
  refine pick_len ?_
  rw [← a.length, ← b.length, List.length_map, l1, l2]
  exact hS
/-- both -/
theorem fz4 (F : FunD K x qual params body scope dvs kws f fd) (G : FnOk P w K mg base (L2.CX P w) k f fd ps (spZ K ps.length g)) (n : Nat) (ks : List Str) (ms : List (Str × V)) (S : List Src) (dz mz : List Vl) (hdz : ∀ ρ H, RVs K ρ H dz dvs) (hz : ∀ ρ H, RVs K ρ H mz (ms.map (·.2))) (hd : dvs ≠ []) (hk : kws ≠ []) (hms : ∀ q ∈ ms, q ∈ kws)
    (h : ∀ (T D : Addr) (doc pm : Value) (an : Option Addr) (cdv ct : Value) (us its mv ws : List Value), us.length = n → its.length = dvs.length → mv.length = ms.length → ws.length = ks.length →
      ∃ k, bindArgs (PySem.W.fnOf x qual params body scope (.ref T) (.ref D) doc pm an cdv ct) ⟨us, ks.zip ws⟩ = seqItems? (.ref T) >>= k ∧ KwChain D ((ms.map (·.1)).zip mv) (k (some its.toArray)) (ps.zip (pickL S us its mv ws)))
    (hl : S.length = ps.length) (hS : S.all (Src.lt n dvs.length ms.length ks.length) = true) : Fz P w K mg base k f n ks (fun xs ys => pickL S xs dz mz ys) g := by
  obtain ⟨its, mv, B⟩ := F.kbinds n ks ms (fun {α} us its mv ws => pickL S us its mv ws) hd hk hms (fun a b c d => pick_vals a b c d S) h
  refine ⟨fd, ps, _, _, G, B, fun ρ H xs vs ys zs l1 l2 a b => ⟨?_, pick_rvs a (hdz ρ H) (hz ρ H) b S⟩⟩
  rw [← hl]
  refine pick_len ?_
  rw [← a.length, ← b.length, List.length_map, l1, l2]
  exact hS
end
/-! ### the module's constants -/
mutual
/-- the value u of the module, told as a tree -/
def kv (K : PySem.W.Frag) : Vl → Value → Bool
  | .non, .none => true
  | .bl b, .bool c => b == c
  | .int i, .int j _ => decide (i = j)
  | .str x, .str y _ => decide (x = y)
  | .ty n, .type m => decide (n = m)
  | .glo x, .ref a => decide (a = He.ga K x)
  | .tup xs, .ref a => (match K.lookup a with
    | some ⟨.type c, _, .seq its _, _⟩ => decide (c = "tuple") && (decide (its.size ≤ sizeLine) && kvs K xs its.toList)
    | _ => false)
  | .frl xs, .ref a => (match K.lookup a with
    | some ⟨.type c, none, .seq its _, _⟩ => decide (c = "list") && (decide (its.size ≤ sizeLine) && kvs K xs its.toList)
    | _ => false)
  | _, _ => false
def kvs (K : PySem.W.Frag) : List Vl → List Value → Bool
  | [], [] => true
  | x :: xs, u :: us => kv K x u && kvs K xs us
  | _, _ => false
end
mutual
theorem kv_ok {K : PySem.W.Frag} : ∀ {x : Vl} {u : Value}, kv K x u = true → ∃ v, RelV v u ∧ ∀ ρ H, RV K ρ H x v
  | .non, .none, _ => ⟨.non, rfl, fun _ _ => rfl⟩
  | .bl b, .bool c, h => ⟨.bl b, by rw [eq_of_beq (show (b == c) = true from h)]; rfl, fun _ _ => rfl⟩
  | .int i, .int j t, h => ⟨.int i, ⟨t, by rw [of_decide_eq_true (show decide (i = j) = true from h)]⟩, fun _ _ => rfl⟩
  | .str x, .str y t, h => ⟨.str x, ⟨t, by rw [of_decide_eq_true (show decide (x = y) = true from h)]⟩, fun _ _ => rfl⟩
  | .ty n, .type m, h => ⟨.ty n, by rw [of_decide_eq_true (show decide (n = m) = true from h)]; rfl, fun _ _ => rfl⟩
  | .glo x, .ref a, h => ⟨.ref (He.ga K x), by rw [of_decide_eq_true (show decide (a = He.ga K x) = true from h)]; rfl, fun _ _ => rfl⟩
  | .tup xs, .ref a, h => by
    have h' : (match K.lookup a with
      | some ⟨.type c, _, .seq its _, _⟩ => decide (c = "tuple") && (decide (its.size ≤ sizeLine) && kvs K xs its.toList)
      | _ => false) = true := h
    split at h'
    · rename_i c od its n sl q
      rw [Bool.and_eq_true, Bool.and_eq_true, decide_eq_true_eq, decide_eq_true_eq] at h'
      obtain ⟨rfl, h2, h3⟩ := h'
      obtain ⟨vs, r1, r2⟩ := kvs_ok h3
      exact ⟨.ref a, rfl, fun ρ H => ⟨a, vs, rfl, .inr ⟨_, its, n, q, rfl, rfl, h2, r1⟩, r2 ρ H⟩⟩
    · cases h'
  | .frl xs, .ref a, h => by
    have h' : (match K.lookup a with
      | some ⟨.type c, none, .seq its _, _⟩ => decide (c = "list") && (decide (its.size ≤ sizeLine) && kvs K xs its.toList)
      | _ => false) = true := h
    split at h'
    · rename_i c its n sl q
      rw [Bool.and_eq_true, Bool.and_eq_true, decide_eq_true_eq, decide_eq_true_eq] at h'
      obtain ⟨rfl, h2, h3⟩ := h'
      obtain ⟨vs, r1, r2⟩ := kvs_ok h3
      exact ⟨.ref a, rfl, fun ρ H => ⟨a, vs, rfl, .inr ⟨_, its, n, q, rfl, rfl, rfl, h2, r1⟩, r2 ρ H⟩⟩
    · cases h'
theorem kvs_ok {K : PySem.W.Frag} : ∀ {xs : List Vl} {us : List Value}, kvs K xs us = true → ∃ vs, Vals vs us ∧ ∀ ρ H, RVs K ρ H xs vs
  | [], [], _ => ⟨[], .nil, fun _ _ => rfl⟩
  | x :: xs, u :: us, h => by
    rw [kvs, Bool.and_eq_true] at h
    obtain ⟨v, h1, h2⟩ := kv_ok h.1
    obtain ⟨vs, h3, h4⟩ := kvs_ok h.2
    exact ⟨v :: vs, .cons h1 h3, fun ρ H => ⟨v, vs, rfl, h2 ρ H, h4 ρ H⟩⟩
end
/-- the module's name x is the constant y -/
def ckGlob (x : Str) (y : Vl) (K : PySem.W.Frag) : Bool := match PySem.W.nsIn K mainGlobals x with
  | some (some u) => kv K y u
  | _ => false
theorem ckGlob_ok {K : PySem.W.Frag} {h : Heap} {mg : Str → Option Value} (X : K.In h) (G : h.Ns mainGlobals mg) {x : Str} {y : Vl} (c : ckGlob x y K = true) : ∃ u v, mg x = some u ∧ RelV v u ∧ ∀ ρ H, RV K ρ H y v := by
  unfold ckGlob at c
  split at c
  · rename_i u e
    obtain ⟨v, h1, h2⟩ := kv_ok c
    exact ⟨u, v, PySem.W.mg_of X G e, h1, h2⟩
  · cases c
/-! ### defs by where they stand -/
structure DZ where
  adr : PySem.W.Frag → Addr
  name : Str
  qual : Str
  params : Arguments
  body : List Stmt
  scope : Scope
  dfl : List He.Dv := []
  kwd : List (Str × He.Dv) := []
def DZ.val (d : DZ) : He.FnW := some (d.name, d.qual, d.params, .stmts d.body, d.scope, mainGlobals, [], builtinsNs)
def DZ.dvs (K : PySem.W.Frag) (d : DZ) : List V := d.dfl.map (He.Dv.v K)
def DZ.kws (K : PySem.W.Frag) (d : DZ) : List (Str × V) := d.kwd.map fun q => (q.1, q.2.v K)
def fnZ (K : PySem.W.Frag) (a : Addr) : He.FnW := match K.lookup a with
  | some ⟨_, _, .func fd, _⟩ => some (fd.name, fd.qualname, fd.params, fd.body, fd.scope, fd.globals, fd.closure, fd.builtins)
  | _ => none
def DZ.ok (K : PySem.W.Frag) (d : DZ) : Bool := PySem.W.keepIn K (.ref (d.adr K)) && (match K.lookup (d.adr K) with
  | some ⟨_, _, .func fd, _⟩ => PySem.W.codeIn K fd.code d.qual && (He.dflB K fd.defaults (d.dvs K) && He.kwdB K fd.kwdefaults (d.kws K))
  | _ => false)
theorem DZ.funD {K : PySem.W.Frag} {d : DZ} (e : fnZ K (d.adr K) = d.val) (c : d.ok K = true) : ∃ fd, FunD K d.name d.qual d.params d.body d.scope (d.dvs K) (d.kws K) (d.adr K) fd := by
  unfold DZ.ok at c
  unfold fnZ at e
  rw [Bool.and_eq_true] at c
  obtain ⟨kp, c2⟩ := c
  split at c2
  · rename_i oc od fd osl q
    rw [q] at e
    obtain ⟨n1, n2, n3, n4, n5, n6, n7, n8, n9, n10, n11, n12, n13, n14, n15⟩ := fd
    have e2 : (some (n1, n2, n3, n4, n5, n6, n7, n15) : He.FnW) = some (d.name, d.qual, d.params, .stmts d.body, d.scope, mainGlobals, [], builtinsNs) := e
    simp only [Option.some.injEq, Prod.mk.injEq] at e2
    obtain ⟨rfl, rfl, rfl, rfl, rfl, rfl, rfl, rfl⟩ := e2
    rw [Bool.and_eq_true, Bool.and_eq_true] at c2
    obtain ⟨k1, k3, k4⟩ := c2
    exact ⟨_, ⟨oc, od, n8, n9, n10, n11, n12, n13, n14, osl, rfl, q, k1, He.dflB_ok k3, He.kwdB_ok k4⟩, kp⟩
  · cases c2
/-! ### the __init__s of own errors: they bear the cell of their class -/
structure EZ where
  adr : PySem.W.Frag → Addr
  cls : PySem.W.Frag → Addr
  qual : Str
  params : Arguments
  body : List Stmt
  scope : Scope
  file : Str
def EZ.val (d : EZ) : He.FnW := some ("__init__", d.qual, d.params, .stmts d.body, d.scope, mainGlobals, [("__class__", 0)], builtinsNs)
def fnE (K : PySem.W.Frag) (a : Addr) : He.FnW := match K.lookup a with
  | some ⟨_, _, .func fd, _⟩ => some (fd.name, fd.qualname, fd.params, fd.body, fd.scope, fd.globals, fd.closure.map (fun p => (p.1, 0)), fd.builtins)
  | _ => none
def codeOk (K : PySem.W.Frag) (file : Str) : Value → Bool
  | .ref c => (match K.lookup c with
    | some ⟨_, _, .fields (vs : Array Value), _⟩ => (match (vs[2]? : Option Value) with
      | some (.str f _) => decide (f = file)
      | _ => false)
    | _ => false)
  | _ => false
def cellOk (K : PySem.W.Frag) (C : Addr) (c : Addr) : Bool := match K.lookup c with
  | some ⟨_, _, .cell (some (.ref D)), _⟩ => decide (D = C)
  | _ => false
def noneB : Value → Bool
  | .none => true
  | _ => false
def EZ.ok (K : PySem.W.Frag) (d : EZ) : Bool := match K.lookup (d.adr K) with
  | some ⟨_, _, .func fd, _⟩ => PySem.W.codeIn K fd.code d.qual && (noneB fd.defaults && (codeOk K d.file fd.code && fd.closure.all fun p => cellOk K (d.cls K) p.2))
  | _ => false
theorem EZ.facts {K : PySem.W.Frag} {d : EZ} (e : fnE K (d.adr K) = d.val) (c : d.ok K = true) : ∃ (cc cda : Addr) (kV doc pm ct : Value) (an : Option Addr) (oc : Value) (od : Option Addr) (osl : Array (Option Value)) (vs : Array Value) (tf : Tok) (ccl : Value) (cdd : Option Addr) (ccs : Array (Option Value)) (cl : Value) (cld : Option Addr) (csl : Array (Option Value)),
    K.lookup (d.adr K) = some ⟨oc, od, .func (PySem.W.fnX "__init__" d.qual d.params d.body d.scope [("__class__", cc)] .none kV doc pm an (.ref cda) ct), osl⟩ ∧ PySem.W.codeIn K (.ref cda) d.qual = true ∧ K.lookup cda = some ⟨ccl, cdd, .fields vs, ccs⟩ ∧ vs[2]? = some (.str d.file tf) ∧ K.lookup cc = some ⟨cl, cld, .cell (some (.ref (d.cls K))), csl⟩ := by
  unfold EZ.ok at c
  unfold fnE at e
  split at c
  · rename_i oc od fd osl q
    rw [q] at e
    obtain ⟨n1, n2, n3, n4, n5, n6, n7, n8, n9, n10, n11, n12, n13, n14, n15⟩ := fd
    have e2 : (some (n1, n2, n3, n4, n5, n6, n7.map (fun p => (p.1, 0)), n15) : He.FnW) = (some (("__init__" : Str), d.qual, d.params, FuncBody.stmts d.body, d.scope, mainGlobals, [(("__class__" : Str), (0 : Addr))], builtinsNs) : He.FnW) := e
    simp only [Option.some.injEq, Prod.mk.injEq] at e2
    obtain ⟨rfl, rfl, rfl, rfl, rfl, rfl, e7, rfl⟩ := e2
    obtain ⟨cc, rfl⟩ : ∃ cc : Addr, n7 = [(("__class__" : Str), cc)] := by
      cases n7 with
      | nil => cases e7
      | cons p r =>
        cases r with
        | nil =>
          obtain ⟨x, cc⟩ := p
          simp only [List.map_cons, List.map_nil, List.cons.injEq, Prod.mk.injEq] at e7
          exact ⟨cc, by rw [e7.1.1]⟩
        | cons p2 r => simp at e7
    simp only [Bool.and_eq_true, List.all_cons, List.all_nil, Bool.and_true] at c
    obtain ⟨k1, k2, k3, k4⟩ := c
    have h8 : n8 = .none := by
      unfold noneB at k2
      split at k2
      · rfl
      · cases k2
    subst h8
    unfold codeOk at k3
    split at k3
    · rename_i cda
      split at k3
      · rename_i ccl cdd vs ccs q2
        split at k3
        · rename_i f tf q3
          rw [decide_eq_true_eq] at k3
          subst k3
          unfold cellOk at k4
          split at k4
          · rename_i cl cld D csl q4
            rw [decide_eq_true_eq] at k4
            subst k4
            exact ⟨cc, cda, _, _, _, _, _, oc, od, osl, vs, tf, ccl, cdd, ccs, cl, cld, csl, q, k1, q2, q3, q4⟩
          · cases k4
        · cases k3
      · cases k3
    · cases k3
  · cases c
/-! ### the hook -/
abbrev AlZ : Type := Bool × List He.FnW × List He.FnW
abbrev CkL : Type := List (PySem.W.Frag → Bool)
def obsZ (cks : CkL) (ds : List DZ) (es : List EZ) (K : PySem.W.Frag) : AlZ := ((cks.all fun c => c K) && ((ds.all fun d => d.ok K) && es.all fun d => d.ok K), ds.map fun d => fnZ K (d.adr K), es.map fun d => fnE K (d.adr K))
def valZ (ds : List DZ) (es : List EZ) : AlZ := (true, ds.map DZ.val, es.map EZ.val)
def SaysZ (cks : CkL) (ds : List DZ) (es : List EZ) (K : PySem.W.Frag) : Prop := obsZ cks ds es K = valZ ds es
/-- what the head's run tells of: what the module's names lead to, and the interpreter's own table -/
def asZ (g : Addr → Option Obj) (n : Nat) : List Addr := cStatics :: He.asD g n
def obsZG (n : Nat) (cks : CkL) (ds : List DZ) (es : List EZ) (g : Addr → Option Obj) : AlZ := obsZ cks ds es (He.frG g (asZ g n))
def hookZ (n : Nat) (cks : CkL) (ds : List DZ) (es : List EZ) : PySem.W.Hook where
  α := AlZ
  obs := fun s => obsZG n cks ds es s.heap.get?
  val := fun _ => valZ ds es
  says := fun _ h => ∃ K : PySem.W.Frag, K.In h ∧ SaysZ cks ds es K
  of := fun _ _ e => ⟨_, He.frG_in, e⟩
  keeps := fun _ _ _ ⟨K, hK, c⟩ k => ⟨K, PySem.W.Frag.In.keeps hK k, c⟩
theorem obsZG_eq {n : Nat} {cks : CkL} {ds : List DZ} {es : List EZ} {g : Addr → Option Obj} {s : Shared} (h : ∀ a, g a = s.heap.get? a) : obsZG n cks ds es g = (hookZ n cks ds es).obs s := by
  have e : g = s.heap.get? := funext h
  rw [e] <;> rfl
section
variable {cks : CkL} {ds : List DZ} {es : List EZ} {K : PySem.W.Frag}
theorem SaysZ.all (c : SaysZ cks ds es K) : (cks.all fun c => c K) = true ∧ (ds.all fun d => d.ok K) = true ∧ (es.all fun d => d.ok K) = true := by
  have c1 : ((cks.all fun c => c K) && ((ds.all fun d => d.ok K) && es.all fun d => d.ok K)) = true := congrArg (fun z : AlZ => z.1) c
  rw [Bool.and_eq_true, Bool.and_eq_true] at c1
  exact c1
theorem SaysZ.fact (c : SaysZ cks ds es K) (i : Nat) {f : PySem.W.Frag → Bool} (h : cks[i]? = some f := by rfl) : f K = true := List.all_eq_true.mp c.all.1 f (List.mem_of_getElem? h)
theorem SaysZ.def_ (c : SaysZ cks ds es K) (i : Nat) {d : DZ} (h : ds[i]? = some d := by rfl) : ∃ fd, FunD K d.name d.qual d.params d.body d.scope (d.dvs K) (d.kws K) (d.adr K) fd := by
  have c2 : (ds.map fun d => fnZ K (d.adr K)) = ds.map DZ.val := congrArg (fun z : AlZ => z.2.1) c
  have e2 : (ds.map fun d => fnZ K (d.adr K))[i]? = (ds.map DZ.val)[i]? := by rw [c2]
  rw [List.getElem?_map, List.getElem?_map, h] at e2
  exact DZ.funD (Option.some.inj e2) (List.all_eq_true.mp c.all.2.1 d (List.mem_of_getElem? h))
theorem SaysZ.err_ (c : SaysZ cks ds es K) (i : Nat) {d : EZ} (h : es[i]? = some d := by rfl) : fnE K (d.adr K) = d.val ∧ d.ok K = true := by
  have c2 : (es.map fun d => fnE K (d.adr K)) = es.map EZ.val := congrArg (fun z : AlZ => z.2.2) c
  have e2 : (es.map fun d => fnE K (d.adr K))[i]? = (es.map EZ.val)[i]? := by rw [c2]
  rw [List.getElem?_map, List.getElem?_map, h] at e2
  exact ⟨Option.some.inj e2, List.all_eq_true.mp c.all.2.2 d (List.mem_of_getElem? h)⟩
end
/-! ### the end -/
/-- the law's call: g answers True on the script -/
theorem call_end {P : Program} {w : World} {K : PySem.W.Frag} {mg mb : Str → Option Value} {k : Nat} {fa a : Addr} {fd : FuncData} {x : Str} {g : FD} {s₁ : Shared} {vs : List Value} {ns : List Int}
    (KX : K.In s₁.heap) (hns : s₁.heap.Ns mainGlobals mg) (hb : s₁.heap.Ns builtinsNs mb) (hbb : ∀ x : Str, x ≠ "__name__" → mb x = bootBuiltins x) (hlim : s₁.heap.NoLimit) (hg : s₁.gens = #[])
    (ha : s₁.heap.get? a = some { cls := .type "list", data := .seq vs.toArray }) (hi : IntsAre vs ns) (hl : ns.length ≤ sizeLine) (hr : Room k callerA)
    (F : ∀ base : Heap, K.In base → base.Ns mainGlobals mg → FnOk P w K mg base (L2.CX P w) k fa fd [x] (spZ K 1 g)) (hbind : ∀ (s : Shared) (u : Value), BindsTo s fd ⟨[u], []⟩ [(x, u)])
    (hlaw : ∃ m', g [.frl (ns.map Vl.int)] [] = some (.ok (.bl true), m')) :
    codeAny (model P w) callerA (.call (.ref fa) ⟨[.ref a], []⟩) (fun r s' => r = .ok (.ret (.bool true)) ∧ OldK s₁.heap s'.heap ∧ s'.os = s₁.os ∧ AllBare s'.gens) s₁ := by
  obtain ⟨m', hlaw⟩ := hlaw
  have rv := vals_ints hi
  have lenV : vs.length = ns.length := hi.length
  have rints : ∀ (ρ : Lay) (H : Hp) (l : List Int), RVs K ρ H (l.map Vl.int) (l.map V.int) := fun ρ H l => by
    induction l with
    | nil => rfl
    | cons i l ih => exact ⟨_, _, rfl, rfl, ih⟩
  -- nothing but the script may be tracked
  have core : ∀ H : Hp, (∀ b, H b = none ∨ b = a ∧ ∃ o xs, H b = some (.frz o (.lst xs))) → LstAt K ⟨[], []⟩ H a (ns.map V.int) → HOk P w H s₁.heap → (H a ≠ none → K.lookup a = none) →
      codeAny (model P w) callerA (.call (.ref fa) ⟨[.ref a], []⟩) (fun r s' => r = .ok (.ret (.bool true)) ∧ OldK s₁.heap s'.heap ∧ s'.os = s₁.os ∧ AllBare s'.gens) s₁ := by
    intro H hO hS hok hK
    have isA : ∀ {b : Addr}, H b ≠ none → b = a := fun {b} h => (hO b).elim (fun z => absurd z h) fun z => z.1
    have plain : ∀ {b : Addr} {o : Obj}, s₁.heap.get? b = some o → (b = a → H a = none) → (hidT s₁.heap H).get? b = some o := fun {b o} e h => by
      refine hidT_get e ?_
      by_cases q : H b = none
      · exact q
      · have := isA q
        subst this
        exact absurd (h rfl) q
    have nsK : ∀ {b : Addr} {mm : Str → Option Value}, s₁.heap.Ns b mm → (hidT s₁.heap H).Ns b mm := fun {b mm} ⟨o, es, ep, e, d, r⟩ => ⟨o, es, ep, plain e (fun q => by
      subst q
      rw [ha] at e
      cases e
      cases (show Data.seq vs.toArray _ = Data.dict es ep from d)), d, r⟩
    have hKb : K.In (hidT s₁.heap H) := fun b o e => plain (KX b o e) fun q => by
      subst q
      by_cases z : H b = none
      · exact z
      · rw [hK z] at e
        cases e
    obtain ⟨mc, hm1, hm2⟩ := hlim
    have e0 : Env0 P w K mg (hidT s₁.heap H) callerA [] s₁ H := ⟨rfl, ⟨hKb, nsK hns, ⟨mb, nsK hb, hbb⟩, ⟨mc, nsK hm1, hm2⟩⟩, fun b o e => of_hidT e, Nat.le_of_eq (hidT_size _ _), trivial, (fun b hb => nomatch hb), hok, .of_eq hg⟩
    have sp : spZ K 1 g [.ref a] H (fun v _ => v = .bl true) (fun _ _ _ => False) := ⟨rfl, ⟨[], []⟩, [], [.frl (ns.map Vl.int)], _, m', ⟨List.nodup_nil, rfl, fun n c b h _ => by simp at h, (fun b hb => nomatch hb)⟩, ⟨_, _, rfl, ⟨a, _, rfl, hS, rints _ _ ns⟩, rfl⟩, hlaw, fun ρ' H' _ _ v rv' => rv'⟩
    refine codeAny_mono ((F _ hKb (nsK hns)).run callerA [] s₁ H ⟨[.ref a], []⟩ [.ref a] [.ref a] _ _ hr e0 (hbind s₁ (.ref a)) (.cons rfl .nil) sp) fun r s' h => ?_
    match r, h with
    | .error e, h => exact (let ⟨_, _, _, _, _, _, _, _, _, _, _, _, z⟩ := h; z.elim)
    | .ok (.ret u), ⟨v, H', os, bare, un, hok', r', q⟩ =>
      have q' : v = .bl true := q
      subst q'
      obtain rfl : u = Value.bool true := r'
      refine ⟨rfl, OldK.of_keep fun b o e => ?_, os, bare⟩
      rcases hO b with z | ⟨_, ob, xs, z⟩
      · exact un.keep b o e z (fun q => nomatch q) (by simp)
      · obtain ⟨e1, _⟩ := hok b _ z
        obtain ⟨e2, _⟩ := hok' b _ (un.frzs b ob _ z)
        rw [e] at e1
        cases e1
        exact e2
  by_cases hk : K.lookup a = none
  · refine core (fun b => if b = a then some (.frz { cls := .type "list", data := .seq vs.toArray } (.lst (ns.map V.int))) else none) (fun b => ?_) (.inl ⟨(fun q => nomatch q), _, if_pos rfl⟩) (fun b u z => ?_) fun _ => hk
    · by_cases hb : b = a
      · exact .inr ⟨hb, _, _, if_pos hb⟩
      · exact .inl (if_neg hb)
    · by_cases hb : b = a
      · have z' := (if_pos hb).symm.trans z
        cases z'
        subst hb
        exact ⟨ha, by rw [List.length_map]; exact hl, vs, _, rv, ha⟩
      · have z' := (if_neg hb).symm.trans z
        cases z'
  · obtain ⟨o, hk⟩ := Option.ne_none_iff_exists'.mp hk
    have e := KX a o hk
    rw [ha] at e
    cases e
    refine core (fun _ => none) (fun _ => .inl rfl) (.inr ⟨_, vs.toArray, _, hk, rfl, rfl, rfl, by rw [List.size_toArray, lenV]; exact hl, by simpa using rv⟩) (fun b u z => ?_) fun z => absurd rfl z
    have z' : (none : Option HO) = some u := z
    cases z'
/-- a law: the def's reading g, and that it answers True -/
theorem walk_end {l : PySem.W.OpenLaw} {n k : Nat} {q : Program} {loose : List Str} {XP : (Str → Option Value) → Heap → Prop} {YP : World → Heap → Prop} {d : DefRec} {x : Str} {g : FD}
    (hn : l.most = some n) (hn2 : n ≤ sizeLine) (hdf : d.params.defaults = []) (hr : Room k callerA)
    (F : ∀ (w : World) (mg : Str → Option Value) (fa : Addr) (h : Heap), YP w h → h.Ns mainGlobals mg → mg d.name = some (.ref fa) →
      ∃ (K : PySem.W.Frag) (fd : FuncData), K.In h ∧ (∀ (s : Shared) (u : Value), BindsTo s fd ⟨[u], []⟩ [(x, u)]) ∧ ∀ base : Heap, K.In base → base.Ns mainGlobals mg → FnOk l.prog w K mg base (L2.CX l.prog w) k fa fd [x] (spZ K 1 g))
    (hlaw : ∀ ns : List Int, ns.length ≤ n → (∀ z ∈ ns, Builtin.Int.intBits z ≤ 1048576) → ∃ m', g [.frl (ns.map Vl.int)] [] = some (.ok (.bl true), m')) :
    PySem.W.WalkO q loose XP YP l.row.toRowW d [] (fun f vs => PySem.call f vs) := by
  refine Att.attach_callB hn hdf fun w s₀ s₁ mg mb fa o pm cd doc a vs ns G Y ho hd hcd hmg hobj hints hlen hbits hg => ?_
  obtain ⟨K, fd, KX, hb, hF⟩ := F w mg fa _ Y G.T.g hmg
  exact call_end KX G.T.g G.T.b G.T.builtins G.T.nolimit hg hobj hints (Nat.le_trans hlen hn2) hr hF hb (hlaw ns hlen hbits)
end Z
namespace Z
open PySem PySem.Spec PyProof.Rows L2
/-! ### facts that the head's run checks -/
abbrev Ck := PySem.W.Frag → Bool
def ckF (f : He.Fa) : Ck := fun K => f.ok K
abbrev ckGlo (x : Str) : Ck := ckF (.glo x)
abbrev ckFree (x : Str) : Ck := ckF (.free x)
abbrev ckMeth (c m : Str) : Ck := ckF (.meth c m)
abbrev ckMkr (c : Str) : Ck := ckF (.mkr c)
abbrev ckCls (c : Str) : Ck := ckF (.cls c)
def ckFld (cs : List Str) (f : Str) : Ck := fun K => cs.all fun c => (He.Fa.cls c).ok K && (He.Fa.noat c f).ok K
theorem ckFld_ok {K : PySem.W.Frag} {cs : List Str} {f : Str} (h : ckFld cs f K = true) : ClsF K cs f := fun c hc => by
  have := List.all_eq_true.mp h c hc
  rw [Bool.and_eq_true] at this
  exact ⟨He.cls_ok this.1, He.noat_ok this.2⟩
def ckIns (cs : List Str) : Ck := fun K => cs.all fun c => (He.Fa.cls c).ok K && (He.eqO (PySem.W.findIn K (.ref (He.ga K c)) "__class__") (some (some (.builtin "object.__class__"))) && (He.eqO (PySem.W.specialIn K (.builtin "object.__class__") "__get__") (some (some (.builtin "getset_descriptor.__get__"))) &&
  (decide (PySem.W.takesIn K (.builtin "object.__class__") = some true) && decide (PySem.W.mroIn K (He.ga K c) (.type "object") = some true))))
theorem ckIns_ok {K : PySem.W.Frag} {cs : List Str} (h : ckIns cs K = true) : InsA K cs := fun c hc => by
  have := List.all_eq_true.mp h c hc
  simp only [Bool.and_eq_true, decide_eq_true_eq] at this
  exact ⟨He.cls_ok this.1, He.eqO_ok this.2.1, He.eqO_ok this.2.2.1, this.2.2.2.1, this.2.2.2.2⟩
/-- isinstance's table -/
def kitT (tb : List (TD × TD × Bool)) : Kit := fun t u => match tb.find? fun p => decide (p.1 = t) && decide (p.2.1 = u) with
  | some p => some p.2.2
  | none => none
def ckKit (tb : List (TD × TD × Bool)) : Ck := fun K => tb.all fun p => decide (PySem.W.kitOne K (p.1.val K) (p.2.1.val K) = some p.2.2)
theorem ckKit_ok {K : PySem.W.Frag} {tb : List (TD × TD × Bool)} (h : ckKit tb K = true) : KitOk K (kitT tb) := fun t u b e => by
  unfold kitT at e
  split at e
  · rename_i p hp
    cases e
    have h1 := List.all_eq_true.mp h p (List.mem_of_find?_eq_some hp)
    have h2 := List.find?_some hp
    simp only [Bool.and_eq_true, decide_eq_true_eq] at h1 h2
    rw [← h2.1, ← h2.2]
    exact h1
  · cases e
def ckOwn (c mn : Str) (ts : List TD) : Ck := fun K => He.eqO (PySem.W.findIn K (.ref (He.ga K c)) mn) (some (some (.ref (He.ma K (He.ga K c) mn)))) && (PySem.W.isFn K (.ref (He.ma K (He.ga K c) mn)) && ts.all fun t => PySem.W.notFirst K (He.ga K c) (t.val K))
theorem ckOwn_ok {K : PySem.W.Frag} {c mn : Str} {ts : List TD} (h : ckOwn c mn ts K = true) : OwnM K c mn (He.ma K (He.ga K c) mn) ts := by
  unfold ckOwn at h
  rw [Bool.and_eq_true, Bool.and_eq_true] at h
  exact ⟨He.eqO_ok h.1, h.2.1, fun t ht => List.all_eq_true.mp h.2.2 t ht⟩
/-- the function of a property -/
def prA (K : PySem.W.Frag) (c f : Str) : Addr := match PySem.W.recIn K (He.ma K (He.ga K c) f) "property" with
  | some (.ref g :: _) => g
  | _ => 0
def ckProp (c f : Str) : Ck := fun K => He.eqO (PySem.W.findIn K (.ref (He.ga K c)) f) (some (some (.ref (He.ma K (He.ga K c) f)))) && (He.eqO (PySem.W.specialIn K (.ref (He.ma K (He.ga K c) f)) "__get__") (some (some (.builtin "property.__get__"))) &&
  (decide (PySem.W.takesIn K (.ref (He.ma K (He.ga K c) f)) = some true) && (match PySem.W.recIn K (He.ma K (He.ga K c) f) "property" with
    | some (.ref _ :: _) => true
    | _ => false)))
theorem ckProp_ok {K : PySem.W.Frag} {c f : Str} (h : ckProp c f K = true) : PropOf K (He.ga K c) f (He.ma K (He.ga K c) f) (prA K c f) := by
  unfold ckProp at h
  simp only [Bool.and_eq_true, decide_eq_true_eq] at h
  refine ⟨He.eqO_ok h.1, He.eqO_ok h.2.1, h.2.2.1, ?_⟩
  have h4 := h.2.2.2
  split at h4
  · rename_i g rest q
    refine ⟨rest, ?_⟩
    unfold prA
    rw [q]
  · cases h4
/-- the class c's constant f -/
structure CV (K : PySem.W.Frag) (c f : Str) (y : Vl) : Prop where
  ex : ∃ (mc u : Value) (v : V), ClX.CRead K (He.ga K c) mc ∧ ClX.CVal K (He.ga K c) mc f v u ∧ ∀ ρ H, RV K ρ H y v
def ckCV (c f : Str) (y : Vl) : Ck := fun K => PySem.W.readsIn K (He.ga K c) (.type "type") && (He.eqO (PySem.W.specialIn K (.ref (He.ga K c)) "__getattribute__") (some (some (.builtin "type.__getattribute__"))) && (match PySem.W.findCls K (.ref (He.ga K c)) (.type "type") f with
  | some (.val u) => kv K y u
  | _ => false))
theorem ckCV_ok {K : PySem.W.Frag} {c f : Str} {y : Vl} (h : ckCV c f y K = true) : CV K c f y := by
  unfold ckCV at h
  rw [Bool.and_eq_true, Bool.and_eq_true] at h
  obtain ⟨h1, h2, h3⟩ := h
  split at h3
  · rename_i u q
    obtain ⟨v, r1, r2⟩ := kv_ok h3
    exact ⟨.type "type", u, v, ⟨h1, He.eqO_ok h2⟩, ⟨q, r1⟩, r2⟩
  · cases h3
/-- the module's constant x -/
structure GV (K : PySem.W.Frag) (mg : Str → Option Value) (x : Str) (y : Vl) : Prop where
  ex : ∃ u v, mg x = some u ∧ RelV v u ∧ ∀ ρ H, RV K ρ H y v
theorem gv_ok {K : PySem.W.Frag} {h : Heap} {mg : Str → Option Value} (X : K.In h) (G : h.Ns mainGlobals mg) {x : Str} {y : Vl} (c : ckGlob x y K = true) : GV K mg x y := ⟨ckGlob_ok X G c⟩
section
variable {X : Cx} {x c f : Str} {y : Vl} {pos : Pos} {e a b : Expr} {de da db : DE} {k : Nat}
theorem se_con (hg : Gl X x) (h : GV X.K X.mg x y) (hd : (x == ("__debug__" : Str)) = false := by decide) : SE X (.Name x pos) (dC y) := by
  obtain ⟨u, v, h1, h2, h3⟩ := h.ex
  exact se_glob hg h1 h2 h3 hd
theorem se_cv (he : SE X e de) (h : CV X.K c f y) (hab : attributeBase e f X.env (eval e X.env) = eval e X.env := by rfl) : SE X (.Attribute e f pos) (dCV c y de) := by
  obtain ⟨mc, u, v, h1, h2, h3⟩ := h.ex
  exact se_cval he h1 h2 h3 hab
theorem u64 {A : Around} (hr : Room k A) : A.units + 64 < cLine := hr.units
theorem u65 {A : Around} (hr : Room k A) : A.units + 65 < cLine := by have := hr.un; omega
end
end Z
namespace Z
open PySem PySem.Spec PyProof.Rows L2
/-! ### walks over what may change: the i-th item by the memory of that turn -/
abbrev Wk := Nat → Mem → Option (Option Vl)
abbrev DW := Ev → Mem → Option (R (Wk × Nat) × Mem)
def ItW (K : PySem.W.Frag) (J : It) (ρ0 : Lay) (H0 : Hp) (w : Wk) : Prop := ∀ (i : Nat) (ρ : Lay) (m : Mem) (H : Hp), Ext ρ0 H0 ρ H → RM K ρ m H →
  (∀ x, w i m = some (some x) → J.go i H ∧ ∀ v H', J.yld i H v H' → RM K ρ m H' ∧ Ext ρ H ρ H' ∧ RV K ρ H' x v) ∧ (w i m = some none → J.stop i H)
def rdW (K : PySem.W.Frag) (W : WX) (d : DW) : TI := fun σ H R => ∃ ρ env m r m', S K ρ env m σ H ∧ d env m = some (r, m') ∧ ∀ ρ' H', RM K ρ' m' H' → Ext ρ H ρ' H' → match r with
  | .ok w => ∀ J, ItW K J ρ' H' w.1 → R J H'
  | .ex c fs => ∀ dd, XD K ρ' H' dd fs → W (.ref (He.ga K c)) dd σ H'
structure SIW (X : Cx) (tg iter : Expr) (d : DW) : Prop where
  run : ∀ W, Takes X W → PI X tg iter (rdW X.K W d)
def statW (xs : List Vl) : Wk := fun i _ => some xs[i]?
def cellW (n : Nat) : Wk := fun i m => match m[n]? with
  | some (.lst ys) => some ys[i]?
  | _ => none
def wkOf (m : Mem) : Vl → Option (Wk × Nat)
  | .obj n => (match m[n]? with
    | some (.lst xs) => some (cellW n, xs.length)
    | _ => none)
  | x => (match staD x with
    | some xs => some (statW xs, xs.length)
    | none => none)
def wLst (da : DE) : DW := fun env m => bindR (da env m) fun x m => match wkOf m x with
  | some w => some (.ok w, m)
  | none => none
section
variable {K : PySem.W.Frag} {ρ0 : Lay} {H0 : Hp} {xs ys : List Vl} {vs us : List V} {a b : Addr}
theorem itW_stat (h : ∀ ρ H, Ext ρ0 H0 ρ H → SqL K H a vs) (r : RVs K ρ0 H0 xs vs) : ItW K (Itl K a) ρ0 H0 (statW xs) := fun i ρ m H E M => by
  have q := itOk_list h r i ρ m H E M
  refine ⟨fun x hx => q.1 x (Option.some.inj hx), fun hx => q.2 ?_⟩
  have hx' : xs[i]? = none := Option.some.inj hx
  exact List.getElem?_eq_none_iff.mp hx'
theorem itW_cell {n : Nat} (ha : ρ0.c[n]? = some a) : ItW K (Itl K a) ρ0 H0 (cellW n) := fun i ρ m H E M => by
  have ha' : ρ.c[n]? = some a := by
    obtain ⟨t, ht⟩ := E.pre
    rw [← ht, List.getElem?_append_left (List.getElem?_eq_some_iff.mp ha).1]
    exact ha
  unfold cellW
  cases hm : m[n]? with
  | none => exact ⟨(fun x hx => nomatch hx), fun hx => nomatch hx⟩
  | some c =>
    cases c with
    | lst ys =>
      obtain ⟨vs, h1, h2⟩ := M.at_ _ _ _ hm ha'
      refine ⟨fun x hx => ?_, fun hx => ⟨vs, SqL.of h1, ?_⟩⟩
      · obtain ⟨v, h3, h4⟩ := h2.get (Option.some.inj hx)
        refine ⟨⟨vs, v, SqL.of h1, h3⟩, fun w H' q => ?_⟩
        obtain ⟨rfl, q2⟩ := q
        have := q2 vs (SqL.of h1)
        rw [h3] at this
        cases this
        exact ⟨M, .refl, h4⟩
      · have hx' : ys[i]? = none := Option.some.inj hx
        rw [← h2.length]
        exact List.getElem?_eq_none_iff.mp hx'
    | _ => exact ⟨(fun x hx => nomatch hx), fun hx => nomatch hx⟩
theorem rdW_E {da : DE} {W : WX} {f : Vl → Mem → Option (R (Wk × Nat) × Mem)} {σ : L2.St} {H : Hp} {R : It → Hp → Prop} {Q : VK} (h : rdW K W (fun env m => bindR (da env m) f) σ H R)
    (k : ∀ x m1 ρ env w v H1, S K ρ env m1 σ H1 → RV K ρ H1 x v → f x m1 = some (.ok w, m1) → (∀ J, ItW K J ρ H1 w.1 → R J H1) → Q v H1) (hf : ∀ x m r m', f x m = some (r, m') → (∃ w, r = .ok w) ∧ m' = m) : rdE K W da σ H Q := by
  obtain ⟨ρ, env, m, r, m', s, e, p⟩ := h
  have e' : bindR (da env m) f = some (r, m') := e
  unfold bindR at e'
  split at e'
  · cases e'
  · rename_i x m1 h0
    obtain ⟨⟨w, rfl⟩, rfl⟩ := hf x m1 r m' e'
    exact goE s h0 fun ρ' H' v s' E rv => k x _ ρ' env w v H' s' rv e' fun J hJ => p ρ' H' s'.mem E J hJ
  · rename_i c fs m1 h0
    cases e'
    exact exE s h0 fun ρ' H' dd s' E r => p ρ' H' s'.mem E dd r
end
section
variable {X : Cx} {tg e : Expr} {es : List Expr} {pos p : Pos} {da db : DE} {d : DW}
theorem siw_list (ha : SE X e da) : SIW X tg e (wLst da) := ⟨fun W tk => impPI (pi_list (ha.run W tk)) fun σ H R h =>
  rdW_E (Q := fun x H1 => ∃ a, x = .ref a ∧ (∃ xs, SqL X.K H1 a xs) ∧ R (Itl X.K a) H1) h (fun x m1 ρ env w v H1 s r e k => by
    split at e
    · rename_i w' hw
      cases e
      unfold wkOf at hw
      split at hw
      · rename_i n
        split at hw
        · rename_i ys hy
          cases hw
          obtain ⟨a, rfl, ha⟩ := r
          obtain ⟨vs, h1, h2⟩ := s.mem.at_ _ _ _ hy ha
          exact ⟨a, rfl, ⟨vs, SqL.of h1⟩, k _ (itW_cell ha)⟩
        · cases hw
      · split at hw
        · rename_i ys hy
          cases hw
          obtain ⟨p, vs, rfl, h1, h2⟩ := staD_ok r hy
          exact ⟨p, rfl, ⟨vs, h1 ρ H1 .refl⟩, k _ (itW_stat h1 h2)⟩
        · cases hw
    · cases e) fun x m r m' e => by
    split at e
    · cases e
      exact ⟨⟨_, rfl⟩, rfl⟩
    · cases e⟩
def forW (g : DG) (body : DS) (w : Wk) : Nat → Nat → Ev → Mem → Option (Fl × Mem)
  | 0, i, env, m => (match w i m with
    | some none => some (.nx env, m)
    | _ => none)
  | k + 1, i, env, m => (match w i m with
    | some none => some (.nx env, m)
    | some (some x) => (match g x env m with
      | some (env1, m1) => (match body env1 m1 with
        | some (.nx env2, m2) => forW g body w k (i + 1) env2 m2
        | some (.ct env2, m2) => forW g body w k (i + 1) env2 m2
        | some (.bk env2, m2) => some (.nx env2, m2)
        | r => r)
      | none => none)
    | none => none)
def dForW (d : DW) (g : DG) (body : DS) : DS := fun env m => bindS (d env m) env fun w m => forW g body w.1 w.2 0 env m
theorem ss_forW {body : List Stmt} {g : DG} {db : DS} (hp : PassesOwn (model X.prog X.w) X.A X.env X.xe) (hc : X.calm = true) (hi : SIW X tg e d) (hg : SG X tg g) (hb : SSs X body db)
    (hs : ∀ x, foldedSetIterable e X.env x = pure x := by intro _; rfl) : SS X (.For tg e body [] pos) (dForW d g db) := ⟨fun W tk =>
  impPS (ps_for hp hc (hi.run W tk) (hg.run W tk) (hb.run W tk) hs) fun D σ H ⟨ρ, env, m, f, m', s, e, p⟩ => by
    unfold dForW bindS at e
    split at e
    · cases e
    · rename_i w m1 h0
      refine ⟨ρ, env, m, _, _, s, h0, fun ρ1 H1 M1 E1 J hJ => ?_⟩
      refine ⟨fun i k σ' H' => ∃ ρ' env' m2, S X.K ρ' env' m2 σ' H' ∧ Ext ρ1 H1 ρ' H' ∧ forW g db w.1 k i env' m2 = some (f, m'), ⟨w.2, ρ1, env, m1, ⟨M1, s.env.mono E1⟩, .refl, e⟩, fun i k σ' H' ⟨ρ', env', m2, s', E', e'⟩ => ?_⟩
      obtain ⟨j1, j2⟩ := hJ i ρ' m2 H' E' s'.mem
      have stop : w.1 i m2 = some none → some (Fl.nx env', m2) = some (f, m') → J.stop i H' ∧ D.nx σ' H' := fun hw q => by
        cases q
        exact ⟨j2 hw, p ρ' H' s'.mem (E1.trans E') σ' s'.env⟩
      cases k with
      | zero =>
        unfold forW at e'
        split at e'
        · rename_i hw
          exact .inl (stop hw e')
        · cases e'
      | succ k =>
        unfold forW at e'
        split at e'
        · rename_i hw
          exact .inl (stop hw e')
        · rename_i x hw
          obtain ⟨j3, j4⟩ := j1 x hw
          refine .inr ⟨j3, fun σ2 H2 => ∃ ρ' env' m2, S X.K ρ' env' m2 σ2 H2 ∧ Ext ρ1 H1 ρ' H2 ∧ forW g db w.1 k (i + 1) env' m2 = some (f, m'), fun σ2 H2 h2 => ⟨k, Nat.lt_succ_self k, h2⟩, fun v H2 hy => ?_⟩
          obtain ⟨M2, E2, r2⟩ := j4 v H2 hy
          split at e'
          · rename_i env1 m3 hg'
            refine ⟨ρ', env', m2, x, env1, m3, s'.to E2 M2, r2, hg', fun ρ3 H3 σ3 s3 E3 => ?_⟩
            have E4 := (E'.trans E2).trans E3
            split at e'
            · rename_i env2 m4 hb'
              exact ⟨ρ3, env1, m3, _, _, s3, hb', fun ρ4 H4 M4 E5 σ4 r4 => ⟨ρ4, env2, m4, ⟨M4, r4⟩, E4.trans E5, e'⟩⟩
            · rename_i env2 m4 hb'
              exact ⟨ρ3, env1, m3, _, _, s3, hb', fun ρ4 H4 M4 E5 σ4 r4 => ⟨ρ4, env2, m4, ⟨M4, r4⟩, E4.trans E5, e'⟩⟩
            · rename_i env2 m4 hb'
              cases e'
              exact ⟨ρ3, env1, m3, _, _, s3, hb', fun ρ4 H4 M4 E5 σ4 r4 => p ρ4 H4 M4 (E1.trans (E4.trans E5)) σ4 r4⟩
            · rename_i r0 n1 n2 n3
              refine ⟨ρ3, env1, m3, f, m', s3, e', fun ρ4 H4 M4 E5 => ?_⟩
              have pp := p ρ4 H4 M4 (E1.trans (E4.trans E5))
              cases f with
              | rt v => exact pp
              | ex c fs env2 => exact pp
              | nx env2 => exact absurd e' (n1 env2 m')
              | ct env2 => exact absurd e' (n2 env2 m')
              | bk env2 => exact absurd e' (n3 env2 m')
          · cases e'
        · cases e'
    · rename_i c fs m1 h0
      cases e
      exact ⟨ρ, env, m, _, _, s, h0, fun ρ' H' M E dd x => p ρ' H' M E σ (s.env.mono E) dd x⟩⟩
/-! comprehensions -/
def lcW (g : DGc) (dt : DT) (de : DE) (env : Ev) (w : Wk) : Nat → Nat → Mem → Option (List Vl × Mem)
  | 0, i, m => (match w i m with
    | some none => some ([], m)
    | _ => none)
  | k + 1, i, m => (match w i m with
    | some none => some ([], m)
    | some (some x) => (match g x env with
      | some env1 => (match dt env1 m with
        | some (.ok true, m1) => (match de env1 m1 with
          | some (.ok y, m2) => (match lcW g dt de env w k (i + 1) m2 with
            | some (ys, m3) => some (y :: ys, m3)
            | none => none)
          | _ => none)
        | some (.ok false, m1) => lcW g dt de env w k (i + 1) m1
        | _ => none)
      | none => none)
    | none => none)
def dLcW (di : DW) (g : DGc) (dt : DT) (de : DE) (vs : List Nat) : DA := fun env m => bindR (di env m) fun w m => if w.2 ≤ sizeLine then okR (lcW g dt de (wipeE env vs) w.1 w.2 0 m) else none
theorem tLcW_of {K : PySem.W.Frag} {W : WX} {di : DW} {g : DGc} {dt : DT} {de : DE} {vs : List Nat} {σ : L2.St} {H : Hp} {Q : VK} (h : rdL K W (dLcW di g dt de vs) σ H Q) : tLc (rdW K W di) (rdGc K g vs) (rdT K FE dt) (rdE K FE de) vs σ H Q := by
  obtain ⟨ρ, env, m, r, m', s, e, p⟩ := h
  unfold dLcW at e
  unfold bindR at e
  split at e
  · cases e
  · rename_i w m1 h0
    dsimp only at e
    split at e
    · rename_i hz
      refine ⟨ρ, env, m, _, _, s, h0, fun ρ1 H1 M1 E1 J hJ D hD => ?_⟩
      obtain ⟨ys, h2, rfl⟩ := okR_some e
      have oc := M1.fresh hD
      have oz := M1.freshz hD
      refine ⟨fun i k H' => k + i = w.2 ∧ ∃ ρ' m2 acc accv rest, S K ρ' (wipeE env vs) m2 (L2.wipe σ vs) H' ∧ Ext ρ1 H1 ρ' H' ∧ H' D = some (.lst accv) ∧ D ∉ ρ'.c ∧ D ∉ ρ'.z ∧ acc.length ≤ i ∧ RVs K ρ' H' acc accv ∧ lcW g dt de (wipeE env vs) w.1 k i m2 = some (rest, m') ∧ ys = acc ++ rest,
        ⟨w.2, rfl, ρ1, m1, [], [], ys, ⟨M1.laid hD, (s.env.mono (E1.trans (ext_new hD))).wipe vs⟩, ext_new hD, upd_same, oc, oz, Nat.le_refl _, rfl, h2, rfl⟩, fun i k H' ⟨hk, ρ', m2, acc, accv, rest, s', E', hD', nc, nz, hacc, ra, hl, hy⟩ => ?_⟩
      obtain ⟨j1, j2⟩ := hJ i ρ' m2 H' E' s'.mem
      have stop : w.1 i m2 = some none → some (([] : List Vl), m2) = some (rest, m') → J.stop i H' ∧ Q (.ref D) H' := fun hw q => by
        cases q
        refine ⟨j2 hw, p ρ' H' s'.mem (E1.trans E') _ ⟨D, accv, rfl, ⟨nc, nz, E1.none hD⟩, hD', by rw [← ra.length]; omega, ?_⟩⟩
        rw [hy, List.append_nil]
        exact ra
      cases k with
      | zero =>
        unfold lcW at hl
        split at hl
        · rename_i hw
          exact .inl (stop hw hl)
        · cases hl
      | succ k =>
        unfold lcW at hl
        split at hl
        · rename_i hw
          exact .inl (stop hw hl)
        · rename_i x hw
          obtain ⟨j3, j4⟩ := j1 x hw
          refine .inr ⟨j3, fun H2 => k + (i + 1) = w.2 ∧ ∃ ρ' m2 acc accv rest, S K ρ' (wipeE env vs) m2 (L2.wipe σ vs) H2 ∧ Ext ρ1 H1 ρ' H2 ∧ H2 D = some (.lst accv) ∧ D ∉ ρ'.c ∧ D ∉ ρ'.z ∧ acc.length ≤ i + 1 ∧ RVs K ρ' H2 acc accv ∧ lcW g dt de (wipeE env vs) w.1 k (i + 1) m2 = some (rest, m') ∧ ys = acc ++ rest, fun H2 h2 => ⟨k, Nat.lt_succ_self k, h2⟩, fun v H2 hyl => ?_⟩
          obtain ⟨M2, E2, r2⟩ := j4 v H2 hyl
          split at hl
          · rename_i env1 hg
            refine ⟨ρ', _, m2, x, env1, s'.to E2 M2, r2, hg, fun σ3 s3 w3 => ⟨w3.trans (wipe_wipe fun _ h => h), ?_⟩⟩
            have hD2 : H2 D = some (.lst accv) := E2.keep D _ hD' nc
            have back : ∀ {ρ4 : Lay} {m4 : Mem} {H4 : Hp}, Ext ρ' H2 ρ4 H4 → RM K ρ4 m4 H4 → S K ρ4 (wipeE env vs) m4 (L2.wipe σ vs) H4 := fun E4 M4 => s'.to (E2.trans E4) M4
            split at hl
            · rename_i m4 ht
              refine goT s3 ht fun ρ4 H4 s4 E4 => ?_
              show rdE K FE de σ3 H4 _
              split at hl
              · rename_i y m5 he
                refine goE s4 he fun ρ5 H5 u s5 E5 ru => ?_
                split at hl
                · rename_i zs m6 hr
                  cases hl
                  have E45 := E4.trans E5
                  have hD5 : H5 D = some (.lst accv) := E45.keep D _ hD2 nc
                  have nc5 : D ∉ ρ5.c := E45.out hD2 nc
                  have nz5 : D ∉ ρ5.z := E45.outz hD2 nz
                  refine ⟨accv, hD5, by rw [← ra.length]; omega, by omega, ρ5, m5, acc ++ [y], accv ++ [u], zs, ?_⟩
                  have sb := back E45 s5.mem
                  refine ⟨sb.priv nc5 nz5 hD5, ((E'.trans E2).trans E45).priv hD, upd_same, nc5, nz5, by rw [List.length_append]; show acc.length + 1 ≤ _; omega, ?_, hr, by rw [hy, List.append_assoc]; rfl⟩
                  exact RVs.priv nc5 nz5 hD5 _ ((ra.mono (E2.trans E45)).append ⟨u, [], rfl, ru, rfl⟩)
                · cases hl
              · cases hl
            · rename_i m4 ht
              refine goT s3 ht fun ρ4 H4 s4 E4 => ?_
              show _ ∧ _
              refine ⟨by omega, ρ4, m4, acc, accv, rest, back E4 s4.mem, (E'.trans E2).trans E4, E4.keep D _ hD2 nc, E4.out hD2 nc, E4.outz hD2 nz, by omega, ra.mono (E2.trans E4), hl, hy⟩
            · cases hl
          · cases hl
        · cases hl
    · cases e
  · rename_i c fs m1 h0
    cases e
    exact ⟨ρ, env, m, _, _, s, h0, fun ρ' H' M E dd x => p ρ' H' M E dd x⟩
/-- [e for x in xs if t]: a new list -/
theorem sl_lcW {elt tg iter : Expr} {ifs : List Expr} {scope : Scope} {own : List (Str × Nat)} {di : DW} {g : DGc} {dt : DT} {de : DE} (hc : X.calm = true) (hN : X.N.Nodup) (hi : SIW X tg iter di) (ok : BlkOk X.N X.env.scope scope own)
    (hg : ∀ (s : Shared) (H : Hp) (C : Addr) (cl : List (Str × Addr)) (fp : List Addr), SGc (X.blk s H scope (compEnvC scope cl C X.env) fp) tg g (own.map (·.2))) (ht : ∀ (s : Shared) (H : Hp) (C : Addr) (cl : List (Str × Addr)) (fp : List Addr), STs (X.blk s H scope (compEnvC scope cl C X.env) fp) ifs dt)
    (he : ∀ (s : Shared) (H : Hp) (C : Addr) (cl : List (Str × Addr)) (fp : List Addr), SE (X.blk s H scope (compEnvC scope cl C X.env) fp) elt de) (hs : ∀ x, foldedSetIterable iter X.env x = pure x := by intro _; rfl) :
    SL X (.ListComp elt [⟨tg, iter, ifs, 0⟩] scope pos) (dLcW di g dt de (own.map (·.2))) := ⟨fun W tk =>
  impPE (pe_lc hc hN (hi.run W tk) ok (fun s H C cl fp => (hg s H C cl fp).run) (fun s H C cl fp => (ht s H C cl fp).run FE takesF) (fun s H C cl fp => (he s H C cl fp).run FE takesF) hs) fun σ H Q h => tLcW_of h⟩
theorem ss_setLcW {i : Nat} {y : Str} {py spos : Pos} {cell : Bool} {elt tg iter : Expr} {ifs : List Expr} {scope : Scope} {own : List (Str × Nat)} {di : DW} {g : DGc} {dt : DT} {de : DE} (hc : X.calm = true) (hN : X.N.Nodup) (hy : X.N[i]? = some y) (hyl : X.env.scope.names.lookup y = some .local)
    (hsw : swapsWith (.ListComp elt [⟨tg, iter, ifs, 0⟩] scope pos) (some (.Name y py)) spos.line X.env = pure true) (hi : SIW X tg iter di) (ok : BlkOk X.N X.env.scope scope own)
    (hg : ∀ (s : Shared) (H : Hp) (C : Addr) (cl : List (Str × Addr)) (fp : List Addr), SGc (X.blk s H scope (compEnvC scope cl C X.env) fp) tg g (own.map (·.2))) (ht : ∀ (s : Shared) (H : Hp) (C : Addr) (cl : List (Str × Addr)) (fp : List Addr), STs (X.blk s H scope (compEnvC scope cl C X.env) fp) ifs dt)
    (he : ∀ (s : Shared) (H : Hp) (C : Addr) (cl : List (Str × Addr)) (fp : List Addr), SE (X.blk s H scope (compEnvC scope cl C X.env) fp) elt de) (hs : ∀ x, foldedSetIterable iter X.env x = pure x := by intro _; rfl) :
    SS X (.Assign [.Name y py] (.ListComp elt [⟨tg, iter, ifs, 0⟩] scope pos) spos) (dAsgL i cell (dLcW di g dt de (own.map (·.2)))) := ⟨fun W tk =>
  impPS (ps_setLc hc hN hy hyl hsw (hi.run W tk) ok (fun s H C cl fp => (hg s H C cl fp).run) (fun s H C cl fp => (ht s H C cl fp).run FE takesF) (fun s H C cl fp => (he s H C cl fp).run FE takesF) hs) fun D σ H ⟨ρ, env, m, f, m', s, e, p⟩ => by
    refine tLcW_of (W := W) (g := g) (dt := dt) (de := de) ?_
    unfold dAsgL bindS at e
    split at e
    · cases e
    · rename_i xs m1 h0
      refine goL s h0 fun ρ' H' a vs s' E w h3 h4 r => ?_
      show D.nx (σ.set i (some (.ref a))) H'
      cases cell with
      | true =>
        dsimp only at e
        rw [if_pos rfl] at e
        cases e
        have s2 := s'.cel (c := .lst xs) w.c w.z h3 rfl ⟨vs, h3, r⟩
        exact p _ H' s2.mem (E.toCel w) _ (s2.env.set ⟨a, rfl, by
          show (ρ'.c ++ [a])[m1.length]? = some a
          rw [← s'.mem.len]
          simp⟩)
      | false =>
        dsimp only at e
        rw [if_neg (by decide)] at e
        cases e
        have s2 := s'.frz w.c h3
        exact p _ H' s2.mem (E.toFrz w) _ (s2.env.set ⟨a, vs, rfl, ⟨mem_frz.mpr (.inr rfl), w.c⟩, h3, r.frz w.c⟩)
    · rename_i c fs m1 h0
      cases e
      exact exL s h0 fun ρ' H' dd s' E r => p ρ' H' s'.mem E σ s'.env dd r⟩
end
end Z
namespace Z
open PySem PySem.Spec PyProof.Rows L2
/-! ### what the readings compute, step by step -/
section
variable {α β : Type} {env env' : Ev} {m m' : Mem} {v w x y : Vl} {a : α} {c : Str} {fs : List (Str × Vl)} {da db de : DE} {d dk : DA} {d1 d2' : DS} {t u : DT} {i j : Nat} {k n : Int}
@[simp] theorem thenS_nx {f : Ev → Mem → Option (Fl × Mem)} : thenS (some (.nx env, m)) f = f env m := rfl
@[simp] theorem thenS_rt {f : Ev → Mem → Option (Fl × Mem)} : thenS (some (.rt v, m)) f = some (.rt v, m) := rfl
@[simp] theorem thenS_bk {f : Ev → Mem → Option (Fl × Mem)} : thenS (some (.bk env, m)) f = some (.bk env, m) := rfl
@[simp] theorem thenS_ct {f : Ev → Mem → Option (Fl × Mem)} : thenS (some (.ct env, m)) f = some (.ct env, m) := rfl
@[simp] theorem thenS_ex {f : Ev → Mem → Option (Fl × Mem)} : thenS (some (.ex c fs env, m)) f = some (.ex c fs env, m) := rfl
@[simp] theorem thenS_none {f : Ev → Mem → Option (Fl × Mem)} : thenS none f = none := rfl
@[simp] theorem bindR_ok {f : α → Mem → Option (R β × Mem)} : bindR (some (.ok a, m)) f = f a m := rfl
@[simp] theorem bindR_ex {f : α → Mem → Option (R β × Mem)} : bindR (some (.ex c fs, m)) f = some (.ex c fs, m) := rfl
@[simp] theorem bindR_none {f : α → Mem → Option (R β × Mem)} : bindR (none : Option (R α × Mem)) f = none := rfl
@[simp] theorem bindS_ok {f : α → Mem → Option (Fl × Mem)} : bindS (some (.ok a, m)) env f = f a m := rfl
@[simp] theorem bindS_ex {f : α → Mem → Option (Fl × Mem)} : bindS (some ((.ex c fs : R α), m)) env f = some (.ex c fs env, m) := rfl
@[simp] theorem bindS_none {f : α → Mem → Option (Fl × Mem)} : bindS (none : Option (R α × Mem)) env f = none := rfl
@[simp] theorem okR_s {z : α} : okR (some (z, m)) = some (.ok z, m) := rfl
@[simp] theorem okR_n : okR (none : Option (α × Mem)) = none := rfl
@[simp] theorem dC_ap : dC v env m = some (.ok v, m) := rfl
theorem dVar_ap (h : env[i]? = some (some v)) : dVar i env m = some (.ok v, m) := by unfold dVar; rw [h]
@[simp] theorem dVar_z {e : Ev} : dVar 0 (some v :: e) m = some (.ok v, m) := rfl
@[simp] theorem dVar_s {o : Option Vl} {e : Ev} : dVar (i + 1) (o :: e) m = dVar i e m := rfl
@[simp] theorem d2_ap {f : F2} : d2 f da db env m = bindR (da env m) fun x m => bindR (db env m) fun y m => okR (f x y m) := rfl
@[simp] theorem b2_ap {f : F2} : b2 f da db env m = bindR (da env m) fun x m => bindR (db env m) fun y m => match f x y m with
  | some (.bl k, m) => some (.ok k, m)
  | _ => none := rfl
@[simp] theorem tB_ap : tB' da env m = bindR (da env m) fun x m => match x with
  | .bl k => some (.ok k, m)
  | _ => none := rfl
@[simp] theorem tTr_ap : tTr da env m = bindR (da env m) fun x m => match truD m x with
  | some b => some (.ok b, m)
  | none => none := rfl
@[simp] theorem truD_bl {b : Bool} : truD m (.bl b) = some b := rfl
@[simp] theorem truD_int {b : Int} : truD m (.int b) = some (b != 0) := rfl
@[simp] theorem truD_non : truD m .non = some false := rfl
@[simp] theorem truD_lst {xs : List Vl} : truD m (.lst xs) = some (!xs.isEmpty) := rfl
@[simp] theorem truD_tup {xs : List Vl} : truD m (.tup xs) = some (!xs.isEmpty) := rfl
@[simp] theorem tAnd2_ap : tAnd2 t u env m = bindR (t env m) fun b m => if b = true then u env m else some (.ok false, m) := rfl
@[simp] theorem tOr2_ap : tOr2 t u env m = bindR (t env m) fun b m => if b = true then some (.ok true, m) else u env m := rfl
@[simp] theorem tNot1_ap : tNot1 t env m = bindR (t env m) fun b m => some (.ok (!b), m) := rfl
@[simp] theorem dIf_ap : dIf t da db env m = bindR (t env m) fun b m => if b = true then da env m else db env m := rfl
@[simp] theorem dCons_ap : dCons da d env m = bindR (da env m) fun x m => bindR (d env m) fun xs m => some (.ok (x :: xs), m) := rfl
@[simp] theorem dNone_ap : dNone env m = some (.ok [], m) := rfl
@[simp] theorem dTup_ap : dTup d env m = bindR (d env m) fun xs m => if xs.length ≤ sizeLine then some (.ok (.tup xs), m) else none := rfl
@[simp] theorem dLst_ap : dLst d env m = bindR (d env m) fun xs m => if xs.length ≤ sizeLine then some (.ok xs, m) else none := rfl
@[simp] theorem dFrz_ap : dFrz d env m = bindR (d env m) fun xs m => some (.ok (.lst xs), m) := rfl
@[simp] theorem dNew_ap : dNew d env m = bindR (d env m) fun xs m => some (.ok (.obj m.length), m ++ [.lst xs]) := rfl
@[simp] theorem dB_ap {f : FB} : dB f d env m = bindR (d env m) fun xs m => okR (f xs m) := rfl
@[simp] theorem dCall_ap {p q : Nat} {gd : List Vl → List Vl → Mem → Option (R Vl × Mem)} : dCall p q gd d dk env m = bindR (d env m) fun xs m => bindR (dk env m) fun ys m => if xs.length = p ∧ ys.length = q then gd xs ys m else none := rfl
@[simp] theorem dNotV_ap : dNotV da env m = bindR (da env m) fun x m => match truD m x with
  | some b => some (.ok (.bl (!b)), m)
  | none => none := rfl
/-! statements -/
@[simp] theorem dSeq_ap : dSeq d1 d2' env m = thenS (d1 env m) d2' := rfl
@[simp] theorem dNil_ap : dNil env m = some (.nx env, m) := rfl
@[simp] theorem dDrop_ap : dDrop de env m = bindS (de env m) env fun _ m => some (.nx env, m) := rfl
@[simp] theorem dRet_ap : dRet de env m = bindS (de env m) env fun x m => some (.rt x, m) := rfl
@[simp] theorem dRetN_ap : dRetN env m = some (.rt .non, m) := rfl
@[simp] theorem dIfS_ap : dIfS t d1 d2' env m = bindS (t env m) env fun b m => if b = true then d1 env m else d2' env m := rfl
@[simp] theorem dAsg_ap : dAsg i de env m = bindS (de env m) env fun x m => some (.nx (env.set i (some x)), m) := rfl
@[simp] theorem dAsgG_ap {g : DG} : dAsgG g de env m = bindS (de env m) env fun x m => match g x env m with
  | some (env', m') => some (.nx env', m')
  | none => none := rfl
@[simp] theorem gVar_ap : gVar i v env m = some (env.set i (some v), m) := rfl
@[simp] theorem gcVar_ap : gcVar i v env = some (env.set i (some v)) := rfl
@[simp] theorem gsNil_ap : gsNil [] env m = some (env, m) := rfl
@[simp] theorem gsCons_ap {g : DG} {gs : List Vl → Ev → Mem → Option (Ev × Mem)} {xs : List Vl} : gsCons g gs (v :: xs) env m = (match g v env m with
  | some (env1, m1) => gs xs env1 m1
  | none => none) := rfl
@[simp] theorem dNever_ap : dNever env m = none := rfl
@[simp] theorem dBrk_ap : dBrk env m = some (.bk env, m) := rfl
@[simp] theorem dCnt_ap : dCnt env m = some (.ct env, m) := rfl
/-! ints -/
@[simp] theorem addA_int : addA (.int k) (.int n) m = some (.int (k + n), m) := rfl
@[simp] theorem subI_int : subI (.int k) (.int n) m = some (.int (k - n), m) := rfl
theorem mulA_int (h : mulC k n = true) : mulA (.int k) (.int n) m = some (.int (k * n), m) := by
  unfold mulA orF mulI intF
  simp only [h, if_true]
theorem mulC_l (h1 : -(2 ^ 64) < k) (h2 : k < 2 ^ 64) : mulC k n = true := by
  unfold mulC
  rw [decide_eq_true h1, decide_eq_true h2]
  rfl
theorem mulC_r (h1 : -(2 ^ 64) < n) (h2 : n < 2 ^ 64) : mulC k n = true := by
  unfold mulC
  rw [decide_eq_true h1, decide_eq_true h2, Bool.or_eq_true]
  exact .inr rfl
theorem divI_int (h : 0 < n) (h2 : n < 1073741824) : divI (.int k) (.int n) m = some (.int (k / n), m) := by
  unfold divI intF
  simp [h, h2]
theorem modI_int (h : 0 < n) : modI (.int k) (.int n) m = some (.int (k % n), m) := by
  unfold modI intF
  simp [h]
theorem powI_int (h : 0 ≤ n) (h2 : n ≤ 1000000) (h3 : k.natAbs < 2 ^ 64) : powI (.int k) (.int n) m = some (.int (k ^ n.toNat), m) := by
  unfold powI intF
  simp only [h, h2, h3, decide_true, Bool.and_self, if_true]
@[simp] theorem ltI_int : ltI (.int k) (.int n) m = some (.bl (decide (k < n)), m) := rfl
@[simp] theorem leI_int : leI (.int k) (.int n) m = some (.bl (decide (k ≤ n)), m) := rfl
@[simp] theorem gtI_int : gtI (.int k) (.int n) m = some (.bl (decide (n < k)), m) := rfl
@[simp] theorem geI_int : geI (.int k) (.int n) m = some (.bl (decide (n ≤ k)), m) := rfl
@[simp] theorem intFn_int : intFn [.int k] m = some (.int k, m) := rfl
@[simp] theorem absF_int : absF [.int k] m = some (.int (if k < 0 then -k else k), m) := rfl
@[simp] theorem two_int {g : Int → Int → Int} : two g [.int k, .int n] m = some (.int (g k n), m) := rfl
theorem lenF_lst {xs : List Vl} : lenF [.lst xs] m = some (.int xs.length, m) := rfl
theorem lenF_frl {xs : List Vl} : lenF [.frl xs] m = some (.int xs.length, m) := rfl
theorem lenF_tup {xs : List Vl} : lenF [.tup xs] m = some (.int xs.length, m) := rfl
theorem lenF_obj {xs : List Vl} (h : m[i]? = some (.lst xs)) : lenF [.obj i] m = some (.int xs.length, m) := by
  unfold lenF seqD
  simp only [h]
/-! == of ints, texts, bools -/
@[simp] theorem eqF_int : eqF (.int k) (.int n) m = some (.bl (decide (k = n)), m) := by
  show some (Vl.bl (decide (V.int k = V.int n)), m) = _
  simp
@[simp] theorem neF_int : neF (.int k) (.int n) m = some (.bl (!decide (k = n)), m) := by
  show some (Vl.bl (!decide (V.int k = V.int n)), m) = _
  simp
@[simp] theorem eqF_bl {p q : Bool} : eqF (.bl p) (.bl q) m = some (.bl (p == q), m) := by
  show some (Vl.bl (decide (V.bl p = V.bl q)), m) = _
  rw [dec_bl]
@[simp] theorem neF_bl {p q : Bool} : neF (.bl p) (.bl q) m = some (.bl (!(p == q)), m) := by
  show some (Vl.bl (!decide (V.bl p = V.bl q)), m) = _
  rw [dec_bl]
@[simp] theorem eqF_str {a b : Str} : eqF (.str a) (.str b) m = some (.bl (a == b), m) := by
  show some (Vl.bl (decide (V.str a = V.str b)), m) = _
  rw [dec_str]
@[simp] theorem neF_str {a b : Str} : neF (.str a) (.str b) m = some (.bl (!(a == b)), m) := by
  show some (Vl.bl (!decide (V.str a = V.str b)), m) = _
  rw [dec_str]
theorem eqF_obj {x y : Vl} (h : flatL x = none ∨ flatL y = none) : eqF x y m = eqW x y m := by
  unfold eqF orF eqS
  rcases h with h | h
  · rw [h]
  · rw [h]
    cases flatL x <;> rfl
theorem neF_obj {x y : Vl} (h : flatL x = none ∨ flatL y = none) : neF x y m = neW x y m := by
  unfold neF orF eqS
  rcases h with h | h
  · rw [h]
  · rw [h]
    cases flatL x <;> rfl
/-! items -/
theorem ixA_lst {xs : List Vl} {q : Int} (h : L2.atI xs q = some v) : ixA (.lst xs) (.int q) m = some (v, m) := by
  unfold ixA orF ixT seqD
  simp only [h]
theorem ixA_frl {xs : List Vl} {q : Int} (h : L2.atI xs q = some v) : ixA (.frl xs) (.int q) m = some (v, m) := by
  unfold ixA orF ixT seqD
  simp only [h]
theorem ixA_tup {xs : List Vl} {q : Int} (h : L2.atI xs q = some v) : ixA (.tup xs) (.int q) m = some (v, m) := by
  unfold ixA orF ixT seqD
  simp only [h]
theorem ixA_obj {xs : List Vl} {q : Int} (hm : m[i]? = some (.lst xs)) (h : L2.atI xs q = some v) : ixA (.obj i) (.int q) m = some (v, m) := by
  unfold ixA orF ixT seqD
  simp only [hm, h]
theorem atI_of {xs : List Vl} {q : Int} (h0 : 0 ≤ q) (h : xs[q.toNat]? = some v) : L2.atI xs q = some v := by
  have hl := (List.getElem?_eq_some_iff.mp h).1
  unfold L2.atI L2.ixN
  rw [if_pos h0, if_pos (by omega)]
  exact h
theorem gSetI_ap {do' di : DE} {n : Nat} {q : Int} {ys : List Vl} {j : Nat} {m1 m2 : Mem} (h1 : do' env m = some (.ok (.obj n), m1)) (h2 : di env m1 = some (.ok (.int q), m2)) (h3 : m2[n]? = some (.lst ys)) (h4 : L2.ixN ys.length q = some j) : gSetI do' di v env m = some (env, m2.set n (.lst (ys.set j v))) := by
  unfold gSetI
  simp only [h1, h2, h3, h4]
theorem getlt {α : Type} {l : List α} {n : Nat} {z : α} (h : l[n]? = some z) : n < l.length := (List.getElem?_eq_some_iff.mp h).1
@[simp] theorem get_set {α : Type} {l : List α} {n : Nat} {z y : α} (h : l[n]? = some z) : (l.set n y)[n]? = some y := by
  rw [List.getElem?_set_self (getlt h)]
theorem set_same {α : Type} {l : List α} {n : Nat} {z : α} (h : l[n]? = some z) : l.set n z = l := by
  obtain ⟨h1, h2⟩ := List.getElem?_eq_some_iff.mp h
  subst h2
  exact List.set_getElem_self h1
end
/-! ### walks whose items leave the memory alone -/
theorem lcW_map {g : DGc} {de : DE} {env : Ev} {n : Nat} {m : Mem} {ys : List Vl} {f : Vl → Vl} (hm : m[n]? = some (.lst ys)) (h : ∀ x ∈ ys, ∃ env1, g x env = some env1 ∧ de env1 m = some (.ok (f x), m)) :
    ∀ k i, k + i = ys.length → lcW g dYes de env (cellW n) k i m = some ((ys.drop i).map f, m)
  | 0, i, hk => by
    unfold lcW cellW
    rw [hm]
    simp only [show ys[i]? = none from List.getElem?_eq_none_iff.mpr (by omega)]
    rw [List.drop_of_length_le (by omega)]
    rfl
  | k + 1, i, hk => by
    have hi : i < ys.length := by omega
    obtain ⟨env1, h1, h2⟩ := h ys[i] (List.getElem_mem hi)
    have ih := lcW_map hm h k (i + 1) (by omega)
    unfold lcW
    have hw : cellW n i m = some (some ys[i]) := by
      unfold cellW
      rw [hm]
      simp only [List.getElem?_eq_getElem hi]
    rw [hw]
    simp only [h1, dYes, h2, ih]
    rw [List.drop_eq_getElem_cons hi, List.map_cons]
theorem lcZ_map {g : DGc} {de : DE} {env : Ev} {m : Mem} {f : Vl → Vl} : ∀ {ys : List Vl}, (∀ x ∈ ys, ∃ env1, g x env = some env1 ∧ de env1 m = some (.ok (f x), m)) → lcZ g dYes de env ys m = some (ys.map f, m)
  | [], _ => rfl
  | x :: xs, h => by
    obtain ⟨env1, h1, h2⟩ := h x List.mem_cons_self
    have ih := lcZ_map (ys := xs) fun y hy => h y (List.mem_cons_of_mem _ hy)
    unfold lcZ
    simp only [h1, dYes, h2, ih, List.map_cons]
/-- a for statement that keeps what P says -/
theorem forL_inv {g : DG} {body : DS} (P : Ev → Mem → Prop) : ∀ {xs : List Vl} {env : Ev} {m : Mem}, P env m → (∀ x ∈ xs, ∀ env m, P env m → ∃ env1 m1 env2 m2, g x env m = some (env1, m1) ∧ body env1 m1 = some (.nx env2, m2) ∧ P env2 m2) → ∃ env' m', forL g body xs env m = some (.nx env', m') ∧ P env' m'
  | [], env, m, h, _ => ⟨env, m, rfl, h⟩
  | x :: xs, env, m, h, hb => by
    obtain ⟨env1, m1, env2, m2, h1, h2, h3⟩ := hb x List.mem_cons_self env m h
    obtain ⟨env', m', h4, h5⟩ := forL_inv P (xs := xs) h3 fun y hy => hb y (List.mem_cons_of_mem _ hy)
    refine ⟨env', m', ?_, h5⟩
    unfold forL
    simp only [h1, h2, h4]
/-! ### what holds behind a reading -/
structure wpO {α : Type} (x : Option (α × Mem)) (Q : α → Mem → Prop) : Prop where
  ex : ∃ a m, x = some (a, m) ∧ Q a m
section
variable {α β : Type} {env env' : Ev} {m m' : Mem} {v : Vl} {Q : Fl → Mem → Prop} {g : DG} {body : DS} {k : Ev → Mem → Option (Fl × Mem)} {xs : List Vl}
theorem wpO_iff {x : Option (α × Mem)} {Q : α → Mem → Prop} : wpO x Q ↔ ∃ a m, x = some (a, m) ∧ Q a m := ⟨fun h => h.ex, fun h => ⟨h⟩⟩
@[simp] theorem wpO_some {a : α} {m : Mem} {Q : α → Mem → Prop} : wpO (some (a, m)) Q = Q a m := propext ⟨fun ⟨_, _, h, q⟩ => by cases h; exact q, fun h => ⟨_, _, rfl, h⟩⟩
@[simp] theorem wpO_none {Q : α → Mem → Prop} : wpO none Q = False := propext ⟨(fun h => by obtain ⟨_, _, e, _⟩ := h; cases e), fun h => False.elim h⟩
theorem wpO_mono {x : Option (α × Mem)} {P Q : α → Mem → Prop} (h : wpO x P) (q : ∀ a m, P a m → Q a m) : wpO x Q := by
  obtain ⟨a, m, h1, h2⟩ := h
  exact ⟨a, m, h1, q _ _ h2⟩
theorem wp_fin {x : Option (α × Mem)} {a : α} (h : wpO x (fun r _ => r = a)) : ∃ m', x = some (a, m') := by
  obtain ⟨r, m', h1, rfl⟩ := wpO_iff.mp h
  exact ⟨m', h1⟩
/-- a loop whose turns all go on -/
theorem wp_for (P : Ev → Mem → Prop) (h0 : P env m) (hs : ∀ x ∈ xs, ∀ env m, P env m → ∃ env1 m1, g x env m = some (env1, m1) ∧ wpO (body env1 m1) (fun f m2 => ∃ e, f = .nx e ∧ P e m2)) (hk : ∀ env' m', P env' m' → wpO (k env' m') Q) : wpO (thenS (forL g body xs env m) k) Q := by
  obtain ⟨env', m', h1, h2⟩ := forL_inv (g := g) (body := body) P (xs := xs) h0 fun x hx env m hp => by
    obtain ⟨env1, m1, h1, h2⟩ := hs x hx env m hp
    obtain ⟨f, m2, h3, e, rfl, h4⟩ := wpO_iff.mp h2
    exact ⟨env1, m1, e, m2, h1, h3, h4⟩
  rw [h1, thenS_nx]
  exact hk env' m' h2
/-- .. the last statement of a body -/
theorem wp_for_last (P : Ev → Mem → Prop) (h0 : P env m) (hs : ∀ x ∈ xs, ∀ env m, P env m → ∃ env1 m1, g x env m = some (env1, m1) ∧ wpO (body env1 m1) (fun f m2 => ∃ e, f = .nx e ∧ P e m2)) (hk : ∀ env' m', P env' m' → Q (.nx env') m') : wpO (forL g body xs env m) Q := by
  obtain ⟨env', m', h1, h2⟩ := forL_inv (g := g) (body := body) P (xs := xs) h0 fun x hx env m hp => by
    obtain ⟨env1, m1, h1, h2⟩ := hs x hx env m hp
    obtain ⟨f, m2, h3, e, rfl, h4⟩ := wpO_iff.mp h2
    exact ⟨env1, m1, e, m2, h1, h3, h4⟩
  exact ⟨_, _, h1, hk env' m' h2⟩
theorem wp_body {n : Nat} {d : DS} {xs : List Vl} {Q : R Vl → Mem → Prop} (h : wpO (d (startZ n xs) m) (fun f m' => match f with
    | .rt v => Q (.ok v) m'
    | .nx _ => Q (.ok .non) m'
    | .ex c fs _ => Q (.ex c fs) m'
    | _ => False)) : wpO (bodyD n d xs m) Q := by
  obtain ⟨f, m', h1, h2⟩ := wpO_iff.mp h
  cases f with
  | rt v => exact ⟨_, _, by unfold bodyD; rw [h1], h2⟩
  | nx e => exact ⟨_, _, by unfold bodyD; rw [h1], h2⟩
  | ex c fs e => exact ⟨_, _, by unfold bodyD; rw [h1], h2⟩
  | _ => exact h2.elim
end
@[simp] theorem dFor_ap {d : DA} {g : DG} {body : DS} {env : Ev} {m : Mem} : dFor d g body env m = bindS (d env m) env fun xs m => forL g body xs env m := rfl
@[simp] theorem dForW_ap {d : DW} {g : DG} {body : DS} {env : Ev} {m : Mem} : dForW d g body env m = bindS (d env m) env fun w m => forW g body w.1 w.2 0 env m := rfl
@[simp] theorem dLc_ap {di : DA} {g : DGc} {dt : DT} {de : DE} {vs : List Nat} {env : Ev} {m : Mem} : dLc di g dt de vs env m = bindR (di env m) fun xs m => if xs.length ≤ sizeLine then okR (lcZ g dt de (wipeE env vs) xs m) else none := rfl
@[simp] theorem dLcW_ap {di : DW} {g : DGc} {dt : DT} {de : DE} {vs : List Nat} {env : Ev} {m : Mem} : dLcW di g dt de vs env m = bindR (di env m) fun w m => if w.2 ≤ sizeLine then okR (lcW g dt de (wipeE env vs) w.1 w.2 0 m) else none := rfl
@[simp] theorem dAsgL_t {i : Nat} {d : DA} {env : Ev} {m : Mem} : dAsgL i true d env m = bindS (d env m) env fun xs m => some (.nx (env.set i (some (.obj m.length))), m ++ [.lst xs]) := rfl
@[simp] theorem dAsgL_f {i : Nat} {d : DA} {env : Ev} {m : Mem} : dAsgL i false d env m = bindS (d env m) env fun xs m => some (.nx (env.set i (some (.lst xs))), m) := rfl
@[simp] theorem wipeE_nil {env : Ev} : wipeE env [] = env := rfl
@[simp] theorem dSl_ap {da : DE} {lo hi : DO} {env : Ev} {m : Mem} : dSl da lo hi env m = bindR (da env m) fun x m => bindR (lo env m) fun l m => bindR (hi env m) fun h m => okR (slD x l h m) := rfl
@[simp] theorem dPart_ap {da : DE} {env : Ev} {m : Mem} : dPart da env m = bindR (da env m) fun x m => match x with
  | .int i => some (.ok (some i), m)
  | _ => none := rfl
def iSeqK : Option (R Vl × Mem) → Option (R (List Vl) × Mem)
  | some (.ok (.tup xs), m) => some (.ok xs, m)
  | some (.ok x, m) => (match staD x with
    | some xs => some (.ok xs, m)
    | none => none)
  | some (.ex c fs, m) => some (.ex c fs, m)
  | none => none
@[simp] theorem iSeqD_ap {da : DE} {env : Ev} {m : Mem} : iSeqD da env m = iSeqK (da env m) := rfl
@[simp] theorem iSeqK_tup {xs : List Vl} {m : Mem} : iSeqK (some (.ok (.tup xs), m)) = some (.ok xs, m) := rfl
@[simp] theorem iSeqK_lst {xs : List Vl} {m : Mem} : iSeqK (some (.ok (.lst xs), m)) = some (.ok xs, m) := rfl
@[simp] theorem iSeqK_frl {xs : List Vl} {m : Mem} : iSeqK (some (.ok (.frl xs), m)) = some (.ok xs, m) := rfl
@[simp] theorem iLst_ap {da : DE} {env : Ev} {m : Mem} : iLst da env m = bindR (da env m) fun x m => match staD x with
  | some xs => some (.ok xs, m)
  | none => none := rfl
@[simp] theorem iTupD_ap {da : DE} {env : Ev} {m : Mem} : iTupD da env m = bindR (da env m) fun x m => match x with
  | .tup xs => some (.ok xs, m)
  | _ => none := rfl
@[simp] theorem wLst_ap {da : DE} {env : Ev} {m : Mem} : wLst da env m = bindR (da env m) fun x m => match wkOf m x with
  | some w => some (.ok w, m)
  | none => none := rfl
@[simp] theorem iRg1_ap {d : DA} {env : Ev} {m : Mem} : iRg1 d env m = bindR (d env m) fun xs m => match rng1 xs with
  | some ys => some (.ok ys, m)
  | none => none := rfl
@[simp] theorem iRg2_ap {d : DA} {env : Ev} {m : Mem} : iRg2 d env m = bindR (d env m) fun xs m => match rng2 xs with
  | some ys => some (.ok ys, m)
  | none => none := rfl
@[simp] theorem iEnm_ap {d : DA} {env : Ev} {m : Mem} : iEnm d env m = bindR (d env m) fun xs m => match xs with
  | [x] => (match staD x with
    | some ys => some (.ok (enumZ ys), m)
    | none => none)
  | _ => none := rfl
@[simp] theorem staD_lst {xs : List Vl} : staD (.lst xs) = some xs := rfl
@[simp] theorem staD_frl {xs : List Vl} : staD (.frl xs) = some xs := rfl
@[simp] theorem le_size {n : Nat} (h : n ≤ 1000) : n ≤ sizeLine := Nat.le_trans h (by decide)
/-! scripts -/
theorem mapO_scal {f : Vl → Option Vl} : ∀ {xs : List Vl}, (∀ x ∈ xs, f x = some x) → mapO f xs = some xs
  | [], _ => rfl
  | x :: xs, h => by
    unfold mapO
    rw [h x List.mem_cons_self]
    simp only [mapO_scal (xs := xs) fun y hy => h y (List.mem_cons_of_mem _ hy)]
theorem cut_all {xs : List Vl} {k : Nat} (h : xs.length ≤ k) : cutZ xs none (some (k : Int)) = xs := by
  unfold cutZ
  rw [HT.sIx_nat, HT.sIx_none, List.drop_zero]
  exact List.take_of_length_le (by simp only [Nat.sub_zero]; omega)
theorem cloL_ints : ∀ {k : Nat} (l : List Int), cloL k (l.map .int) = true
  | _, [] => rfl
  | k, x :: l => by
    show (clo k (.int x) && cloL k (l.map .int)) = true
    rw [cloL_ints l]
    rfl
/-! fields, texts, packed results -/
@[simp] theorem insD_ins {c : Str} {fs : List (Str × Vl)} {m : Mem} : insD m (.ins c fs) = some (c, fs) := rfl
theorem dFld_ins {cs : List Str} {f : Str} {de : DE} {env : Ev} {m m1 : Mem} {c : Str} {fs : List (Str × Vl)} {v : Vl} (h : de env m = some (.ok (.ins c fs), m1)) (h1 : cs.contains c = true) (h2 : fs.lookup f = some v) : dFld cs f de env m = some (.ok v, m1) := by
  unfold dFld
  rw [h, bindR_ok]
  simp only [insD_ins, h1, h2, if_true]
@[simp] theorem dFld_ap {cs : List Str} {f : Str} {de : DE} {env : Ev} {m : Mem} : dFld cs f de env m = bindR (de env m) fun x m => match insD m x with
  | some (c, fs) => if cs.contains c = true then (match fs.lookup f with
    | some v => some (.ok v, m)
    | none => none) else none
  | none => none := rfl
@[simp] theorem dAndV_ap {da db : DE} {env : Ev} {m : Mem} : dAndV da db env m = bindR (da env m) fun x m => match truD m x with
  | some true => db env m
  | some false => some (.ok x, m)
  | none => none := rfl
@[simp] theorem dOrV_ap {da db : DE} {env : Ev} {m : Mem} : dOrV da db env m = bindR (da env m) fun x m => match truD m x with
  | some true => some (.ok x, m)
  | some false => db env m
  | none => none := rfl
theorem fresh_val {gd : List Vl → List Vl → Mem → Option (R Vl × Mem)} {xs ys : List Vl} {m m1 : Mem} {fu : Nat} {x y : Vl} (h : gd xs ys [] = some (.ok x, m1)) (hx : cloL 0 xs = true) (hy : cloL 0 ys = true) (hz : cnv [] m.length m1 fu x = some y) : freshG kNone fu gd xs ys m = some (.ok y, m) := by
  unfold freshG freshR
  rw [hx, hy, h]
  have e : cellsK [] m.length m1 fu = some [] := rfl
  simp [kNone, hz, e]
theorem fresh_top {gd : List Vl → List Vl → Mem → Option (R Vl × Mem)} {xs ys zs : List Vl} {m : Mem} {fu : Nat} (h : gd xs ys [] = some (.ok (.obj 0), [.lst zs])) (hx : cloL 0 xs = true) (hy : cloL 0 ys = true) (hz : ∀ z ∈ zs, cnv [0] m.length [.lst zs] (fu + 1) z = some z) :
    freshG kTop (fu + 1) gd xs ys m = some (.ok (.obj m.length), m ++ [.lst zs]) := by
  have e1 : cnv [0] m.length [.lst zs] (fu + 1) (.obj 0) = some (.obj m.length) := rfl
  have e2 : cellsK [0] m.length [.lst zs] (fu + 1) = some [.lst zs] := by
    unfold cellsK mapO
    have : cnvC [0] m.length [.lst zs] (fu + 1) (.lst zs) = some (.lst zs) := by
      show (mapO (cnv [0] m.length [.lst zs] (fu + 1)) zs).map Cell.lst = _
      rw [mapO_scal hz]
      rfl
    simp only [List.getElem?_cons_zero, this, mapO]
  unfold freshG freshR
  rw [hx, hy, h]
  simp [kTop, e1, e2]
theorem cnv_ints {keep : List Nat} {b : Nat} {m : Mem} {fu : Nat} (l : List Int) : cnv keep b m (fu + 2) (.lst (l.map .int)) = some (.lst (l.map .int)) := by
  show (mapO (cnv keep b m (fu + 1)) (l.map .int)).map Vl.lst = _
  rw [mapO_scal fun x hx => ?_]
  · rfl
  · obtain ⟨i, _, rfl⟩ := List.mem_map.mp hx
    rfl
end Z
namespace Z
open PySem PySem.Spec PyProof.Rows L2
/-! ### exceptions are caught: from then on they are values -/
theorem exq_ok {P : Program} {w : World} {H : Hp} {h : Heap} {a C : Addr} {d : Option Addr} {oe : Obj} {vs : Array Value} (h1 : h.get? a = some oe) (h2 : oe.cls = .ref C) (h3 : oe.dict = d) (h4 : oe.data = .fields vs) : ObjOk P w H h a (exq a C d) :=
  ⟨⟨oe, vs, h1, h2, h3, h4⟩, ⟨oe, h1⟩, fun g1 g2 ⟨oe, vs, q1, q2⟩ k => ⟨oe, vs, k _ q1, q2⟩⟩
section
variable {X : Cx} {pins : List (Addr × Obj)} {σ : L2.St} {H : Hp} {s : Shared} {a : Addr} {oe : Obj} {o : HO}
/-- an object of ours that was not told of is told of from now on -/
theorem Inv.track (I : Inv X pins σ H s) (ha : s.heap.get? a = some oe) (hn : H a = none) (h0 : X.s_0.heap.get? a = none) (nL : a ≠ X.env.locals) (nC : ∀ x c, X.env.cells.lookup x = some c → c ≠ a) (np : ∀ p ∈ X.pn ++ pins, p.1 ≠ a)
    (hob : ObjOk X.prog X.w (upd H a o) s.heap a o) : Inv X pins σ (upd H a o) s := by
  have ne : ∀ {b : Addr} {u : HO}, H b = some u → b ≠ a := fun {b u} e => ne_of_none e hn
  refine ⟨I.ok, I.os, I.bare, ⟨I.base.keep, I.base.slot, fun b ob e n hx => ?_, I.base.there, fun b xs e => ?_, fun b ob u e => ?_, fun b ps e => ?_⟩, I.loc, I.cell, ?_, fun x c e => ?_, fun p hp => ?_, fun b u q => ?_, I.len⟩
  · rw [upd_ne (fun q => by subst q; rw [h0] at e; cases e)]
    exact I.base.free b ob e n hx
  · have := I.base.tups b xs e
    rw [upd_ne (ne this)]
    exact this
  · have := I.base.frzs b ob u e
    rw [upd_ne (ne this)]
    exact this
  · obtain ⟨more, h⟩ := I.base.tbls b ps e
    exact ⟨more, by rw [upd_ne (ne h)]; exact h⟩
  · rw [upd_ne (Ne.symm nL)]
    exact I.free
  · rw [upd_ne (nC x c e)]
    exact I.freeC x c e
  · obtain ⟨e, n, r⟩ := I.pin p hp
    exact ⟨e, by rw [upd_ne (np p hp)]; exact n, r⟩
  · by_cases hb : b = a
    · subst hb
      rw [upd_same] at q
      cases q
      exact hob
    · rw [upd_ne hb] at q
      exact (I.hok b u q).stay (fun _ _ _ q => q) (fun c hc => by rw [upd_ne (ne hc)]; exact hc) fun c xs hc => by rw [upd_ne (ne hc)]; exact hc
end
/-- which class is caught by which clause -/
abbrev ExT := Str → Str → Option Bool
def ExOk (K : PySem.W.Frag) (ex : ExT) : Prop := ∀ c k b, ex c k = some b → PySem.W.exmOne K (.ref (He.ga K c)) (.ref (He.ga K k)) = some b
abbrev Hz := Str × Option Nat × DS
/-- the name of a clause goes -/
def unname (i : Nat) : Option (Fl × Mem) → Option (Fl × Mem)
  | some (.nx env, m) => some (.nx (env.set i none), m)
  | some (.bk env, m) => some (.bk (env.set i none), m)
  | some (.ct env, m) => some (.ct (env.set i none), m)
  | some (.rt v, m) => some (.rt v, m)
  | _ => none
def noEx : Option (Fl × Mem) → Option (Fl × Mem)
  | some (.ex _ _ _, _) => none
  | r => r
def hdZ (ex : ExT) : List Hz → Str → List (Str × Vl) → DS
  | [], c, fs => fun env m => some (.ex c fs env, m)
  | (k, nm, ds) :: r, c, fs => fun env m => match ex c k with
    | none => none
    | some false => hdZ ex r c fs env m
    | some true => (match nm with
      | none => noEx (ds env m)
      | some i => unname i (ds (env.set i (some (.err c fs))) m))
def dTry (ex : ExT) (d : DS) (hs : List Hz) : DS := fun env m => match d env m with
  | some (.ex c fs env1, m1) => hdZ ex hs c fs env1 m1
  | r => r
inductive HdsZ (X : Cx) : List ExceptHandler → List Hz → Prop
  | nil : HdsZ X [] []
  | one {x : Str} {ds : DS} {b₀ : Stmt} {suite : List Stmt} {np pos' : Pos} {hds : List ExceptHandler} {l : List Hz} (hc : Names X x (.ref (He.ga X.K x)))
      (hsu : ∀ (a : Addr) (pn : List (Addr × Obj)), SSs (X.suite a pn) (b₀ :: suite) ds) (r : HdsZ X hds l) : HdsZ X (.ExceptHandler (some (.Name x np)) none (b₀ :: suite) pos' :: hds) ((x, none, ds) :: l)
  | as_ {x n : Str} {i : Nat} {ds : DS} {b₀ : Stmt} {suite : List Stmt} {np pos' : Pos} {hds : List ExceptHandler} {l : List Hz} (hc : Names X x (.ref (He.ga X.K x))) (hi : X.N[i]? = some n) (hln : X.env.kindOf n = some .local)
      (hsu : ∀ (a : Addr) (pn : List (Addr × Obj)), SSs (X.suite a pn) (b₀ :: suite) ds) (r : HdsZ X hds l) : HdsZ X (.ExceptHandler (some (.Name x np)) (some n) (b₀ :: suite) pos' :: hds) ((x, some i, ds) :: l)
/-- what the clauses wish of an exception of the body -/
def wTry (K : PySem.W.Frag) (ex : ExT) (W : WX) (D : Ends) (hs : List Hz) : WX := fun cls dd σ H => ∃ c fs ρ env m f m', cls = .ref (He.ga K c) ∧ S K ρ env m σ H ∧ XD K ρ H dd fs ∧ hdZ ex hs c fs env m = some (f, m') ∧ PoS K ρ H W D f m'
theorem rdS_try {K : PySem.W.Frag} {ex : ExT} {W : WX} {D : Ends} {hs : List Hz} {d : DS} {σ : L2.St} {H : Hp} (h : rdS K W (dTry ex d hs) D σ H) : rdS K (wTry K ex W D hs) d D σ H := by
  obtain ⟨ρ, env, m, f, m', s, e, p⟩ := h
  unfold dTry at e
  split at e
  · rename_i c fs env1 m1 h0
    exact ⟨ρ, env, m, _, _, s, h0, fun ρ' H' M E σ' re dd x => ⟨c, fs, ρ', env1, m1, f, m', rfl, ⟨M, re⟩, x, e, p.mono E⟩⟩
  · rename_i hne
    refine ⟨ρ, env, m, f, m', s, e, fun ρ' H' M E => ?_⟩
    have pp := p ρ' H' M E
    cases f with
    | ex c fs env1 => exact absurd e (hne c fs env1 m')
    | _ => exact pp
/-- the slot i of the frame is emptied behind the flow -/
def goes (i : Nat) (D : Ends) : Ends := ⟨fun σ H => D.nx (σ.set i none) H, D.rt, fun σ H => D.bk (σ.set i none) H, fun σ H => D.ct (σ.set i none) H⟩
theorem po_unname {K : PySem.W.Frag} {ρ : Lay} {H : Hp} {W : WX} {D : Ends} {i : Nat} {g f : Fl} {m2 m' : Mem} (e : unname i (some (g, m2)) = some (f, m')) (p : PoS K ρ H W D f m') :
    PoS K ρ H (fun _ _ _ _ => False) (goes i D) g m2 := fun ρ' H' M E => by
  cases g with
  | nx env => cases e; exact fun σ re => p ρ' H' M E _ re.unset
  | bk env => cases e; exact fun σ re => p ρ' H' M E _ re.unset
  | ct env => cases e; exact fun σ re => p ρ' H' M E _ re.unset
  | rt v => cases e; exact p ρ' H' M E
  | ex c fs env => cases e
theorem po_noEx {K : PySem.W.Frag} {ρ : Lay} {H : Hp} {W : WX} {D : Ends} {g f : Fl} {m2 m' : Mem} (e : noEx (some (g, m2)) = some (f, m')) (p : PoS K ρ H W D f m') : PoS K ρ H (fun _ _ _ _ => False) D g m2 := fun ρ' H' M E => by
  cases g with
  | nx env => cases e; exact p ρ' H' M E
  | bk env => cases e; exact p ρ' H' M E
  | ct env => cases e; exact p ρ' H' M E
  | rt v => cases e; exact p ρ' H' M E
  | ex c fs env => cases e
theorem unname_some {i : Nat} {r : Option (Fl × Mem)} {z : Fl × Mem} (h : unname i r = some z) : ∃ g m, r = some (g, m) := by
  cases r with
  | none => cases h
  | some q => exact ⟨q.1, q.2, rfl⟩
theorem noEx_some {r : Option (Fl × Mem)} {z : Fl × Mem} (h : noEx r = some z) : ∃ g m, r = some (g, m) := by
  cases r with
  | none => cases h
  | some q => exact ⟨q.1, q.2, rfl⟩
theorem rv_err {K : PySem.W.Frag} {ρ : Lay} {m : Mem} {H : Hp} {a : Addr} {c : Str} {fs : List (Str × Vl)} {dd : Option Addr} (M : RM K ρ m H) (x : XD K ρ H dd fs) (na : H a = none) : RV K ρ (upd H a (exq a (He.ga K c) dd)) (.err c fs) (.ref a) := by
  have x' := x.mono (ext_new (ρ := ρ) (o := exq a (He.ga K c) dd) na)
  cases dd with
  | none =>
    have q : fs = [] := x'
    subst q
    exact ⟨a, _, [], rfl, M.fresh na, upd_same, .inr ⟨rfl, rfl⟩, rfl⟩
  | some d =>
    obtain ⟨gs, h1, n, h2⟩ := x'
    exact ⟨a, _, gs, rfl, M.fresh na, upd_same, .inl ⟨d, rfl, n, h1⟩, h2⟩
theorem takesN {Y : Cx} : Takes Y (fun _ _ _ _ => False) := fun _ _ ⟨_, _, _, _, _, _, _, _, _, _, _, _, _, _, _, _, w⟩ => w.elim
/-! an exception that is in our hand -/
/-- a, of the class cls, its dict at dd: noted, its flight none; s is the state with it, sI the one without -/
structure Hand (X : Cx) (pins : List (Addr × Obj)) (a : Addr) (cls : Value) (dd : Option Addr) (σ : L2.St) (H : Hp) (s : Shared) : Prop where
  ex : ∃ (B : Heap) (sI : Shared), Inv X pins σ H sI ∧ (∀ b o, sI.heap.get? b = some o → b ∉ frs X.stack → B.get? b = some o) ∧ sI.heap.UpToSlots s.heap ∧ s.os = sI.os ∧ AllBare s.gens ∧
    HandSPX.FlyingZ B (X.env :: X.outer) a (Zc cls dd) s.heap
  na : H a = none
  stk : X.stack = X.env :: X.outer
  frm : X.env.frame = some X.env.locals
  noex : X.ex = []
section
variable {X Y : Cx} {pins pins' : List (Addr × Obj)} {σ : L2.St} {H : Hp} {s : Shared} {a : Addr} {cls : Value} {dd : Option Addr} {D : Ends}
theorem sp_map {f : Flow} (k : ∀ σ H, Inv Y pins' σ H s → Inv X pins σ H s) (q : SP Y pins' D f s) : SP X pins D f s := by
  cases f with
  | ret u => exact let ⟨v, σ', H', I, r, d⟩ := q; ⟨v, σ', H', k _ _ I, r, d⟩
  | next => exact let ⟨σ', H', I, d⟩ := q; ⟨σ', H', k _ _ I, d⟩
  | brk => exact let ⟨σ', H', I, d⟩ := q; ⟨σ', H', k _ _ I, d⟩
  | cont => exact let ⟨σ', H', I, d⟩ := q; ⟨σ', H', k _ _ I, d⟩
theorem sp_goes {M : Model} {A : Around} {E : Value → Shared → Prop} {f : Flow} {t : Sem Unit} {i : Nat} (k : ∀ σ H Q, Inv Y pins' σ H s → (∀ s', Inv X pins (σ.set i none) H s' → Q () s') → wpAny M A t Q E s)
    (q : SP Y pins' (goes i D) f s) : wpAny M A t (fun _ s' => SP X pins D f s') E s := by
  cases f with
  | ret u => exact let ⟨v, σ', H', I, r, d⟩ := q; k _ _ _ I fun s' J => ⟨v, _, H', J, r, d⟩
  | next => exact let ⟨σ', H', I, d⟩ := q; k _ _ _ I fun s' J => ⟨_, H', J, d⟩
  | brk => exact let ⟨σ', H', I, d⟩ := q; k _ _ _ I fun s' J => ⟨_, H', J, d⟩
  | cont => exact let ⟨σ', H', I, d⟩ := q; k _ _ _ I fun s' J => ⟨_, H', J, d⟩
theorem Hand.inv (h : Hand X pins a cls dd σ H s) : Inv X pins σ H s := let ⟨_, _, I, nb, up, os, ag, fl⟩ := h.ex; I.landed nb fl.1 up os ag
theorem Hand.here (h : Hand X pins a cls dd σ H s) : ∃ (oe : Obj) (vs : Array Value), s.heap.get? a = some oe ∧ oe.cls = cls ∧ oe.dict = dd ∧ oe.data = .fields vs :=
  let ⟨_, _, _, _, _, _, _, fl⟩ := h.ex
  let ⟨oe, vs, e, z, d⟩ := fl.there
  ⟨oe, vs, e, z.1, z.2, d⟩
/-- it is none of the frames -/
theorem Hand.noFrame (h : Hand X pins a cls dd σ H s) : a ∉ frs (X.env :: X.outer) := fun hm => by
  obtain ⟨_, _, _, _, _, _, _, fl⟩ := h.ex
  obtain ⟨oe, vs, e, _, _, d⟩ := h.here
  obtain ⟨_, o, ho, hd⟩ := fl.2.2.1.mem hm
  rw [e] at ho
  cases ho
  exact hd vs d
theorem Hand.apart (h : Hand X pins a cls dd σ H s) : X.s_0.heap.get? a = none ∧ a ≠ X.env.locals ∧ (∀ x c, X.env.cells.lookup x = some c → c ≠ a) ∧ ∀ p ∈ X.pn ++ pins, p.1 ≠ a := by
  have nf := h.noFrame
  have hI := h.inv
  obtain ⟨oe, vs, e, _, _, d⟩ := h.here
  obtain ⟨B, sI, I, nb, up, os, ag, fl⟩ := h.ex
  have nI : sI.heap.get? a = none := by
    rcases hz : sI.heap.get? a with _ | o
    · rfl
    · have := (nb a o hz (by rw [h.stk]; exact nf)).symm.trans fl.2.1
      cases this
  refine ⟨?_, fun z => nf ?_, fun x c hc z => ?_, fun p hp z => ?_⟩
  · rcases hz : X.s_0.heap.get? a with _ | o
    · rfl
    · obtain ⟨o', q⟩ := I.base.there a o hz (by rw [h.noex]; exact fun q => nomatch q)
      cases nI.symm.trans q
  · unfold frs
    rw [List.filterMap_cons, h.frm, z]
    exact List.mem_cons_self
  · obtain ⟨v, o, ho, hd⟩ := hI.cell x c hc
    subst z
    cases e.symm.trans ho
    cases d.symm.trans hd
  · have := (I.pin p hp).1
    rw [z, nI] at this
    cases this
/-- its flight is none once more -/
theorem Hand.again {M : Model} {A : Around} {E : Value → Shared → Prop} {Q : Unit → Shared → Prop} (h : Hand X pins a cls dd σ H s) (k : ∀ s', Hand X pins a cls dd σ H s' → Q () s') : wpAny M A (setFlight (.ref a) none) Q E s := by
  obtain ⟨B, sI, I, nb, up, os, ag, fl⟩ := h.ex
  exact HandSPX.lands_againZ fl fun _ fl' up' => k _ ⟨⟨B, sI, I, nb, up.trans up', os, ag, fl'⟩, h.na, h.stk, h.frm, h.noex⟩
/-- no clause is left: on it flies -/
theorem Hand.onward {W : WX} (h : Hand X pins a cls dd σ H s) (tk : Takes X W) (w : W cls dd σ H) : wpAny (model X.prog X.w) X.A (handleBy (.ref a) X.env []) (SP X pins D) X.xe s := by
  obtain ⟨B, sI, I, nb, up, os, ag, fl⟩ := h.ex
  have go : wpAny (model X.prog X.w) X.A (setFlight (.ref a) X.env.frame) (fun _ s4 => wpAny (model X.prog X.w) X.A (throw (.ref a) : Sem Flow) (SP X pins D) X.xe s4) X.xe s := by
    rw [h.frm]
    exact HandSPX.setFlight_upZ fl fun _ hh up' => wpAny_throw (tk _ _ ⟨a, B, sI, pins, σ, H, cls, dd, rfl, I, nb, up.trans up', .inr (.inr (h.stk ▸ hh)), h.na, os, ag, w⟩)
  obtain ⟨_, _, _, oe, vs, T, _, _, e1, _, e2, e3, _⟩ := id fl
  refine wpAny_handleBy_nil (wpAny_bind (wpAny_field e1 e2 e3 ?_))
  have nt : ¬ ((Value.ref T == Value.none) = true) := by simp
  rw [if_neg nt]
  first
    | exact wpAny_bind go
    | exact wpAny_bind (wpAny_pure (wpAny_bind go))
/-- the suite's state, from ours -/
theorem Hand.suite (h : Hand X pins a cls dd σ H s) : Inv (X.suite a (X.pn ++ pins)) [] σ H s :=
  have I := h.inv
  { ok := I.ok.suite a _, os := I.os, bare := I.bare, base := I.base, loc := I.loc, cell := I.cell, free := I.free, freeC := I.freeC, pin := fun p hp => I.pin p (by simpa using hp), hok := I.hok, len := I.len }
theorem of_suite {pn' : List (Addr × Obj)} (ok : X.Ok) (I : Inv (X.suite a (X.pn ++ pins)) pn' σ H s) : Inv X pins σ H s :=
  { ok := ok, os := I.os, bare := I.bare, base := I.base, loc := I.loc, cell := I.cell, free := I.free, freeC := I.freeC, pin := fun p hp => I.pin p (List.mem_append_left _ hp), hok := I.hok, len := I.len }
theorem to_suite (I : Inv X pins σ H s) : Inv (X.suite a (X.pn ++ pins)) [] σ H s :=
  { ok := I.ok.suite a _, os := I.os, bare := I.bare, base := I.base, loc := I.loc, cell := I.cell, free := I.free, freeC := I.freeC, pin := fun p hp => I.pin p (by simpa using hp), hok := I.hok, len := I.len }
/-- the class of a clause is looked up -/
theorem Hand.test {x : Str} {c : Str} {b : Bool} {np : Pos} {Q : Value → Shared → Prop} {Qb : Bool → Shared → Prop} {E : Value → Shared → Prop} (h : Hand X pins a (.ref (He.ga X.K c)) dd σ H s) (hc : Names X x (.ref (He.ga X.K x))) (q : Q (.ref (He.ga X.K x)) s) :
    wpAny (model X.prog X.w) (X.A.mark (some (.ref a))) (eval (.Name x np) X.env) Q E s := by
  obtain ⟨hg, hd, hm | ⟨hm, hv, hn⟩⟩ := hc
  · exact ld_glob (X := X.suite a (X.pn ++ pins)) h.suite hg hm q hd
  · exact ld_blt (X := X.suite a (X.pn ++ pins)) h.suite hg hm hv q hn hd
theorem Hand.matches {x c : Str} {b : Bool} (h : Hand X pins a (.ref (He.ga X.K c)) dd σ H s) (e : PySem.W.exmOne X.K (.ref (He.ga X.K c)) (.ref (He.ga X.K x)) = some b) : PySem.W.Looks (model X.prog X.w) s.heap (excMatches (.ref a) (.ref (He.ga X.K x))) b := by
  obtain ⟨oe, vs, e1, e2, _⟩ := h.here
  exact PySem.W.exm_one h.inv.kIn (fun _ _ _ _ k q => wpAny_typeOf_ref (k _ _ e1) (by rw [e2]; exact q)) e
end
/-- the clauses of a try, over an exception in our hand -/
theorem handle {X : Cx} {pins : List (Addr × Obj)} {ex : ExT} {W : WX} {D : Ends} {a : Addr} {dd : Option Addr} {c : Str} {fs : List (Str × Vl)} {σ : L2.St} {H : Hp} {s : Shared} (hN : X.N.Nodup) (hE : ExOk X.K ex) (tk : Takes X W) (h : Hand X pins a (.ref (He.ga X.K c)) dd σ H s)
    {ρ : Lay} {env : Ev} {m : Mem} (hS : S X.K ρ env m σ H) (hX : XD X.K ρ H dd fs) : ∀ {hds : List ExceptHandler} {l : List Hz} {f : Fl} {m' : Mem}, HdsZ X hds l → hdZ ex l c fs env m = some (f, m') → PoS X.K ρ H W D f m' →
      wpAny (model X.prog X.w) X.A (handleBy (.ref a) X.env hds) (SP X pins D) X.xe s := by
  have ok := h.inv.ok
  intro hds l f m' hk
  induction hk with
  | nil =>
    intro e p
    cases e
    exact h.onward tk (p ρ H hS.mem .refl σ hS.env dd hX)
  | @one x ds b₀ suite np pos' hds l hc hsu r ih =>
    intro e p
    unfold hdZ at e
    rcases hx : ex c x with _ | b
    · rw [hx] at e
      cases e
    · rw [hx] at e
      refine wpAny_handleBy_cons (codeAny_handlers_test (h.test (Qb := fun _ _ => True) (b := b) hc ((h.matches (hE c x b hx)).here ?_))) (by intro q; cases q)
      cases b with
      | false => exact ih e p
      | true =>
        obtain ⟨g, m2, hg⟩ := noEx_some e
        rw [hg] at e
        refine codeAny_handlers_suite (h.again fun s4 h4 => ?_)
        exact wpAny_mono (((hsu a (X.pn ++ pins)).run (fun _ _ _ _ => False) takesN).run [] s4 σ H D h4.suite ⟨ρ, env, m, g, m2, hS, hg, po_noEx e p⟩) (fun f s6 q => sp_map (fun _ _ I => of_suite ok I) q) fun _ _ z => z.elim
  | @as_ x n i ds b₀ suite np pos' hds l hc hi hln hsu r ih =>
    intro e p
    unfold hdZ at e
    rcases hx : ex c x with _ | b
    · rw [hx] at e
      cases e
    · rw [hx] at e
      refine wpAny_handleBy_cons (codeAny_handlers_test (h.test (Qb := fun _ _ => True) (b := b) hc ((h.matches (hE c x b hx)).here ?_))) (by intro q; cases q)
      cases b with
      | false => exact ih e p
      | true =>
        replace e : unname i (ds (env.set i (some (.err c fs))) m) = some (f, m') := e
        obtain ⟨g, m2, hg⟩ := unname_some e
        rw [hg] at e
        refine codeAny_handlers_suite_as (h.again fun s4 h4 => ?_)
        obtain ⟨oe, vs, e1, e2, e3, e4⟩ := h4.here
        obtain ⟨q0, qL, qC, qP⟩ := h4.apart
        have T4 : Inv X pins σ (upd H a (exq a (He.ga X.K c) dd)) s4 := Inv.track h4.inv e1 h4.na q0 qL qC qP (exq_ok e1 e2 e3 e4)
        have E4 := ext_new (ρ := ρ) (o := exq a (He.ga X.K c) dd) h4.na
        have S4 := hS.to E4 (hS.mem.laid h4.na)
        refine store_ok (X := X.suite a (X.pn ++ pins)) (v := .ref a) (to_suite T4) hN hi (.inl hln) rfl (fun s5 I5 => ?_) (.inr hln)
        exact wpAny_mono (((hsu a (X.pn ++ pins)).run (fun _ _ _ _ => False) takesN).run [] s5 _ _ (goes i D) I5 ⟨ρ, _, m, g, m2, ⟨S4.mem, S4.env.set (rv_err hS.mem hX h4.na)⟩, hg, po_unname e (p.mono E4)⟩)
          (fun f s6 q => sp_goes (fun σ6 H6 Q6 I6 k6 => gone_ok (of_suite ok I6) hN hi hln k6) q) fun _ _ z => z.elim
section
variable {X : Cx} {body : List Stmt} {h₀ : ExceptHandler} {hds : List ExceptHandler} {l : List Hz} {ex : ExT} {d : DS} {pos : Pos}
theorem ss_try (hs : X.stack = X.env :: X.outer) (hf : X.env.frame = some X.env.locals) (hex : X.ex = []) (hN : X.N.Nodup) (hE : ExOk X.K ex)
    (hb : ∀ (pn : List (Addr × Obj)) (xe : Value → Shared → Prop), PassesOwn (model X.prog X.w) X.A X.env xe → SSs (X.tr pn xe) body d)
    (hh : HdsZ X (h₀ :: hds) l) : SS X (.Try body (h₀ :: hds) [] [] pos) (dTry ex d l) := ⟨fun W tk => impPS (t := fun D σ H => rdS X.K (wTry X.K ex W D l) d D σ H) ⟨fun pins s σ H D I h => wpAny_Try_except (by
  have ok := I.ok
  have hb' := hb (X.pn ++ pins) _ (PassesOwn.looking (E₁ := X.xe) (K := fun e s2 => wpAny (model X.prog X.w) X.A (setFlight e none) (fun _ s3 => wpAny (model X.prog X.w) X.A (handleBy e X.env (h₀ :: hds)) (SP X pins D) X.xe s3) X.xe s2))
  refine wpAny_mono ((hb'.run (wTry X.K ex W D l) fun u s' xx => ?_).run [] s σ H D (I.toTry _) h) (fun f s1 q => ?_) fun _ _ he => he
  · obtain ⟨a, B, sI, pins', σ', H', cls, dd, rfl, J, nb, up, sky, na, os, ag, c, fs, ρ, env, m, f, m', rfl, hS, hX, e, p⟩ := xx
    have hfr : X.A.frames = some (X.env :: X.outer) := ok.frames.trans (congrArg some hs)
    refine Sky.land Zc.steady hfr hf (hs ▸ sky) fun h3 fl up3 => ?_
    exact handle (s := { s' with heap := h3 }) hN hE tk ⟨⟨B, sI, J.ofTry ok, nb, up.trans up3, os, ag, fl⟩, na, hs, hf, hex⟩ hS hX hh e p
  · have q2 : SP X pins D f s1 := sp_map (fun _ _ J => J.ofTry ok) q
    cases f with
    | next => exact wpAny_execs_nil q2
    | ret u => exact q2
    | brk => exact q2
    | cont => exact q2)⟩ fun D σ H h => rdS_try h⟩
end
end Z
namespace Z
open PySem PySem.Spec PyProof.Rows L2
/-! ### own errors: a class over a built-in one, whose __init__ says super().__init__(a text), self.f = a parameter -/
structure BaseF (B initId newId : String) (bmB : List Value) : Prop where
  fb : ExcBaseFacts B newId initId bmB
  kf : PySem.W.KxsFacts B initId
  sf : StoreFacts B bmB "object.__setattr__" "object"
theorem base_ValueError : BaseF "ValueError" "ValueError.__init__" "ValueError.__new__" [.type "ValueError", .type "Exception", .type "BaseException", .type "object"] := ⟨F.excBase_ValueError, PySem.W.kxs_ValueError, F.store_ValueError⟩
theorem base_LookupError : BaseF "LookupError" "LookupError.__init__" "LookupError.__new__" [.type "LookupError", .type "Exception", .type "BaseException", .type "object"] := ⟨F.excBase_LookupError, PySem.W.kxs_LookupError, F.store_LookupError⟩
theorem base_RuntimeError : BaseF "RuntimeError" "RuntimeError.__init__" "RuntimeError.__new__" [.type "RuntimeError", .type "Exception", .type "BaseException", .type "object"] := ⟨F.excBase_RuntimeError, PySem.W.kxs_RuntimeError, F.store_RuntimeError⟩
theorem base_OverflowError : BaseF "OverflowError" "OverflowError.__init__" "OverflowError.__new__" [.type "OverflowError", .type "ArithmeticError", .type "Exception", .type "BaseException", .type "object"] := ⟨F.excBase_OverflowError, PySem.W.kxs_OverflowError, F.store_OverflowError⟩
/-- the facts of such a class at C, its field f -/
structure ErrI (P : Program) (K : PySem.W.Frag) (C : Addr) (f : Str) where
  B : String
  initId : String
  newId : String
  bmB : List Value
  base : BaseF B initId newId bmB
  fI : Addr
  cc : Addr
  cda : Addr
  qual : Str
  ar : Arg
  arp : Arg
  scope : Scope
  txt : Str
  p0 : Pos
  p1 : Pos
  p2 : Pos
  p3 : Pos
  p4 : Pos
  p5 : Pos
  q0 : Pos
  q1 : Pos
  q2 : Pos
  q3 : Pos
  ck : Nat
  kV : Value
  doc : Value
  pm : Value
  ct : Value
  an : Option Addr
  oc : Value
  od : Option Addr
  osl : Array (Option Value)
  lk : K.lookup fI = some ⟨oc, od, .func (PySem.W.ksFn "__init__" qual ⟨[], [ar, arp], none, [], [], none, []⟩ [.Expr (.Call (.Attribute (.Call (.Name "super" p0) [] [] p1) "__init__" p2) [.Constant (.str txt) ck p3] [] p4) p5, .Assign [.Attribute (.Name ar.arg q0) f q1] (.Name arp.arg q2) q3] scope .none kV doc pm an (.ref cda) ct cc), osl⟩
  code : PySem.W.codeIn K (.ref cda) qual = true
  cvs : Array Value
  file : Str
  tf : Tok
  ccl : Value
  cdd : Option Addr
  ccs : Array (Option Value)
  lcd : K.lookup cda = some ⟨ccl, cdd, .fields cvs, ccs⟩
  lvs : cvs[2]? = some (.str file tf)
  lfile : (P.main.file == file) = true
  ltop : (P.main.scope.names.lookup ("super" : Str)).isSome = false
  cl : Value
  cld : Option Addr
  csl : Array (Option Value)
  lcell : K.lookup cc = some ⟨cl, cld, .cell (some (.ref C)), csl⟩
  cdC : ClassData
  lC : PySem.W.clsIn K C = some cdC
  sup : scope.names.lookup ("super" : Str) = some .globalImplicit
  scl : scope.names.lookup ("__class__" : Str) = some .free
  sar : scope.names.lookup ar.arg = some .local
  sap : scope.names.lookup arp.arg = some .local
  kind : scope.kind = .function
  co : scope.isCoroutine = false
  gen : scope.isGenerator = false
  nocell : ∀ x ∈ scope.names, x.2 ≠ .cell
  bind : ∀ a b : Value, bindArgs (PySem.W.ksFn "__init__" qual ⟨[], [ar, arp], none, [], [], none, []⟩ [.Expr (.Call (.Attribute (.Call (.Name "super" p0) [] [] p1) "__init__" p2) [.Constant (.str txt) ck p3] [] p4) p5, .Assign [.Attribute (.Name ar.arg q0) f q1] (.Name arp.arg q2) q3] scope .none kV doc pm an (.ref cda) ct cc) ⟨[a, b], []⟩ = pure [(ar.arg, a), (arp.arg, b)]
  pl : Env → Sem Bool
  hev : ∀ env : Env, eval (.Call (.Attribute (.Call (.Name "super" p0) [] [] p1) "__init__" p2) [.Constant (.str txt) ck p3] [] p4) env = (do
      let ov ← attributeBase (.Call (.Name "super" p0) [] [] p1) "__init__" env (eval (.Call (.Name "super" p0) [] [] p1) env)
      standAt p2.atName
      let (f, first) ← holding [ov] (getMethod ov "__init__" (pl env))
      callWith p4 f first (backTo p4 (starEach [.Constant (.str txt) ck p3] env)) [])
  dist : ar.arg ≠ arp.arg
  nodb : (ar.arg == ("__debug__" : Str)) = false
  nodp : (arp.arg == ("__debug__" : Str)) = false
  mroC : PySem.W.mroIn K C (.ref C) = some true
  above : PySem.W.ks_superIn K C C "__init__" = some (some (.builtin initId))
  sub : PySem.W.subIn K (.ref C) (.type B) = some true
  opq : PySem.W.nsIn K cStatics "thirdparty.any" = some none
  xin : PySem.W.excInitIn K C bmB newId = true
  sat : PySem.W.findIn K (.ref C) "__setattr__" = some (some (.builtin "object.__setattr__"))
  over : PySem.W.excOver K C bmB = true
  tak : PySem.W.takerIn K C f = some none
  hdC : PySem.W.hasDictIn K C = true
  ini : PySem.W.findIn K (.ref C) "__init__" = some (some (.ref fI))
  tyI : PySem.W.typeIn K (.ref fI) = some (.type "function")
  exC : PySem.W.subIn K (.ref C) (.type "BaseException") = some true
  tyC : PySem.W.typeIn K (.ref C) = some (.type "type")
  kC : PySem.W.keepIn K (.ref C) = true
section
variable {P : Program} {w : World} {A : Around} {R : Result → Shared → Prop} {K : PySem.W.Frag} {mg mb : Str → Option Value} {hp : Heap} {g : Array GenState} {dr : Drawn} {tk : Nat} {os : OsState} {C : Addr} {f : Str}
theorem mem5 {α : Type} {a b c d e : α} : e ∈ [a, b, c, d, e] := by simp
theorem mem4 {α : Type} {a b c d : α} : d ∈ [a, b, c, d] := by simp
theorem mem3 {α : Type} {a b c : α} : c ∈ [a, b, c] := by simp
/-- the state behind the making of the object, ahead of its __init__ -/
theorem err_init (Er : ErrI P K C f) (X : K.In hp) (hg : hp.Ns mainGlobals mg) (hm : mg "super" = none) (hb : hp.Ns builtinsNs mb) (hbb : ∀ x : Str, x ≠ "__name__" → mb x = bootBuiltins x) (hl : hp.NoLimit) (room : A.depth < recursionLimit) {u : Value}
    (hq : ∀ (h' : Heap) (dx t' : Addr) (hsh : Int) (tq tk' : Nat), (∀ b o, hp.get? b = some o → h'.get? b = some o) → h'.get? (hp.objs.size + 1) = some (PySem.W.excObj C t' (some dx) .none) → h'.get? dx = some (PySem.W.dictOf [⟨hsh, .str f tq, u⟩] 1) →
      hp.objs.size ≤ dx → dx ≠ hp.objs.size + 1 → R (.ok (.ret .none)) ⟨h', g, dr, tk', os⟩) :
    codeAny (model P w) A (.call (.ref Er.fI) ⟨[.ref (hp.objs.size + 1), u], []⟩) R ⟨(hp.push (PySem.W.excTup [u])).push (PySem.W.excObj C hp.objs.size none .none), g, dr, tk, os⟩ := by
  have kk : ∀ b o, hp.get? b = some o → ((hp.push (PySem.W.excTup [u])).push (PySem.W.excObj C hp.objs.size none .none)).get? b = some o := fun b o e => Heap.get?_push_of_some _ (Heap.get?_push_of_some _ e)
  have hx : ((hp.push (PySem.W.excTup [u])).push (PySem.W.excObj C hp.objs.size none .none)).get? (hp.objs.size + 1) = some (PySem.W.excObj C hp.objs.size none .none) := by heap_get
  have ht : ((hp.push (PySem.W.excTup [u])).push (PySem.W.excObj C hp.objs.size none .none)).get? hp.objs.size = some (PySem.W.excTup [u]) := by heap_get
  have hsz : ((hp.push (PySem.W.excTup [u])).push (PySem.W.excObj C hp.objs.size none .none)).objs.size = hp.objs.size + 2 := by rw [Heap.size_push, Heap.size_push]
  have Xk := X.keeps kk
  refine ks_codeAny_call_defAt room (Xk _ _ Er.lk) rfl (hl.keeps kk) (PySem.W.codeRec_of Xk Er.code) rfl (.of_eq (Er.bind _ _)) Er.nocell ?_ (fun h0 hns hk => ?_) Er.co Er.gen Er.kind
  · intro y hy
    rcases List.mem_cons.mp hy with rfl | hy
    · exact Er.sar
    · rcases List.mem_cons.mp hy with rfl | hy
      · exact Er.sap
      · cases hy
  have hL : ((hp.push (PySem.W.excTup [u])).push (PySem.W.excObj C hp.objs.size none .none)).objs.size = hp.objs.size + 2 := hsz
  have nx : hp.get? (hp.objs.size + 1) = none := Heap.get?_none_of_le (Nat.le_add_right _ _)
  have F0 : PyProof.Rows.Fr hp (hp.objs.size + 2) h0 (fun y => [(Er.ar.arg, Value.ref (hp.objs.size + 1)), (Er.arp.arg, u)].reverse.lookup y) := ⟨hL ▸ hns, fun b o e => hk b o (kk b o e), Nat.le_add_right _ 2⟩
  have N0 : PyProof.Rows.News hp (hp.objs.size + 2) h0 [(hp.objs.size + 1, PySem.W.excObj C hp.objs.size none .none)] := fun p hp' => by
    rcases List.mem_cons.mp hp' with rfl | hp'
    · exact ⟨hk _ _ hx, Nat.ne_of_lt (Nat.lt_succ_self _), nx⟩
    · cases hp'
  have X0 : K.In h0 := X.keeps F0.keep
  obtain ⟨oC, hC1, hC2⟩ : ∃ oC, h0.get? C = some oC ∧ oC.data = .cls Er.cdC := by
    have e := Er.lC
    unfold PySem.W.clsIn at e
    split at e
    · rename_i c d cd sl ho
      cases e
      exact ⟨_, X0 _ _ ho, rfl⟩
    · cases e
  have hi : interactive (PySem.W.ksEnv Er.qual Er.scope (hp.objs.size + 2) Er.fI (.ref Er.cda) Er.cc) = false := by
    show ((Er.scope.kind == ScopeKind.module) && _) = false
    rw [Er.kind]
    rfl
  have I0 : PySem.W.InstAt h0 (hp.objs.size + 1) (PySem.W.excObj C hp.objs.size none .none) C none := ⟨hk _ _ hx, rfl, rfl, trivial⟩
  have look1 : ∀ y : Str, y = Er.ar.arg → [(Er.ar.arg, Value.ref (hp.objs.size + 1)), (Er.arp.arg, u)].reverse.lookup y = some (Value.ref (hp.objs.size + 1)) := fun y e => by
    subst e
    have d : (Er.ar.arg == Er.arp.arg) = false := by simpa using Er.dist
    simp [List.lookup, d]
  have look2 : [(Er.ar.arg, Value.ref (hp.objs.size + 1)), (Er.arp.arg, u)].reverse.lookup Er.arp.arg = some u := by simp [List.lookup]
  show _root_.PySem.wpAt (model P w) (A.deeper (PySem.W.ksEnv Er.qual Er.scope _ Er.fI (.ref Er.cda) Er.cc)) _ (execs _ (PySem.W.ksEnv Er.qual Er.scope _ Er.fI (.ref Er.cda) Er.cc)) _ _ _
  rw [hL]
  refine ks_wpAt_execs_cons (ks_wpAt_Expr_any (ks_wpAt_MethodCall ?_ (Er.hev _)) hi)
  refine ks_wpAt_super_base (f := Er.fI) (cc := Er.cda) (ar := Er.ar) Er.sup Er.scl (by decide +kernel) rfl (X0 _ _ Er.lk) rfl rfl rfl (X0 _ _ Er.lcd) rfl Er.lvs Er.lfile Er.ltop ?_
  refine PySem.W.ks_loadName_global Er.kind Er.sup (PySem.Calls.loadGlobal_builtin (hg.keeps F0.keep) hm (hb.keeps F0.keep) ((hbb _ (by decide +kernel)).trans PyProof.Rows.Boot.«super») ⟨rfl, ?_⟩)
  refine wpAny_loadName_free Er.kind Er.scl rfl ⟨_, X0 _ _ Er.lcell, rfl⟩ ?_
  refine wpAny_loadName_local Er.kind Er.sar F0.ns (look1 _ rfl) ?_
  refine ks_wpAny_isType_cls hC1 hC2 ⟨rfl, ?_⟩
  refine ks_wpAny_call_super hC1 hC2 I0.at_ I0.cls (fun c e => nomatch e) (PySem.W.looks_mroIn X0 Er.mroC) (fun h1 e1 k1 => ?_)
  obtain ⟨F1, N1, l1⟩ := PySem.W.ks_newsPush (s := ⟨h0, g, dr, 0, os⟩) F0 N0 rfl e1 k1
  refine PySem.W.kxs_method (pl := Er.pl _) Er.base.kf (s := ⟨h1, g, dr, _, os⟩) F1 X N1 List.mem_cons_self (PySem.W.InstAt.of_exc0 N1 (List.mem_cons_of_mem _ List.mem_cons_self)) Er.opq Er.above Er.sub (by decide +kernel) (fun q h2 F2 N2 l2 => ?_)
  refine PySem.W.kxs_callWith1 N2 List.mem_cons_self ?_
  refine PyProof.Rows.spliced_more (PySem.Calls.Constant_str ?_) (by rfl)
  refine PyProof.Rows.spliced_none ⟨PySem.W.kxs_at N2 List.mem_cons_self, ?_⟩
  have ne1 : h0.objs.size ≠ hp.objs.size + 1 := fun z => absurd (Heap.lt_size (hk _ _ hx)) (by rw [z]; exact Nat.lt_irrefl _)
  have ne2 : q ≠ hp.objs.size + 1 := Nat.ne_of_gt (l2 _ (List.mem_cons_of_mem _ List.mem_cons_self))
  refine PySem.W.kxs_call (s := ⟨h2, g, dr, _, os⟩) F2 X N2 Er.base.fb Er.xin List.mem_cons_self (.tail ne2 (.tail ne1 (.head (fun p hp' => nomatch hp')))) (show 1 ≤ sizeLine by decide) (fun t3 h3 F3 N3 l3 => ?_)
  refine ks_wpAt_execs_cons (ks_wpAt_Assign_Attr (wpAt_of_wpAny (PySem.ESX.ldL F3.ns look2 (PySem.ESX.ldL F3.ns (look1 _ rfl) ?_ Er.kind Er.sar Er.nodb) Er.kind Er.sap Er.nodp)))
  have ne3 : t3 ≠ hp.objs.size + 1 := Nat.ne_of_gt (l3 _ mem3)
  refine PySem.W.set_exc0 (s := ⟨h3, g, dr, _, os⟩) Er.base.sf F3 X N3 mem4 Er.sat Er.over Er.tak Er.hdC rfl (.tail ne3 (.tail ne2 (.tail ne1 (.head (fun p hp' => nomatch hp'))))) (show 1 ≤ 1000 by decide) (fun dx h4 F4 N4 l4 => ?_)
  have lt : hp.objs.size + 1 < dx := l4 _ mem4
  have N5 : PyProof.Rows.News hp (hp.objs.size + 2) h4 [_, _, _, _, (hp.objs.size + 1, PySem.W.excObj C t3 (some dx) .none)] := N4
  have m4 := N5 _ mem5
  have m5 := N5 _ List.mem_cons_self
  exact wpAt_of_wpAny (wpAny_pure (hq h4 dx t3 _ _ _ F4.keep m4.1 m5.1 (Nat.le_of_lt (Nat.lt_of_succ_lt lt)) (Nat.ne_of_gt lt)))
end
/-- the dict of such an error -/
theorem ns1_one {G : Heap} {dx : Addr} {f : Str} {hsh : Int} {tq : Nat} {u : Value} (h : G.get? dx = some (PySem.W.dictOf [⟨hsh, .str f tq, u⟩] 1)) : G.Ns1 dx (fun y => if y = f then some u else none) := by
  refine ⟨_, _, _, h, rfl, ?_, ?_, fun name => ?_⟩
  · intro e he
    have : e = ⟨hsh, .str f tq, u⟩ := by simpa using he
    subst this
    exact ⟨_, _, rfl⟩
  · unfold UniqKeys
    simp
  · by_cases q : name = f
    · subst q
      simp [nsFind, findBy, Value.isStr]
    · have q2 : ¬ f = name := fun z => q z.symm
      simp [nsFind, findBy, Value.isStr, q, q2]
section
variable {X : Cx} {pins : List (Addr × Obj)} {σ : L2.St} {H : Hp} {s : Shared} {C : Addr} {f : Str} {k : Nat}
/-- what C(e) leaves: a the error, dd its dict, sI the state without a -/
structure Made (X : Cx) (pins : List (Addr × Obj)) (σ : L2.St) (H : Hp) (C : Addr) (f : Str) (y : V) (u : Value) (s' : Shared) : Prop where
  ex : ∃ (a dd t : Addr) (sI : Shared), u = .ref a ∧ L2.Inv X pins σ (upd H dd (.xd [(f, y)])) sI ∧ (∀ b o, sI.heap.get? b = some o → s'.heap.get? b = some o) ∧ sI.heap.get? a = none ∧
    s'.heap.get? a = some (PySem.W.excObj C t (some dd) .none) ∧ H a = none ∧ H dd = none ∧ dd ≠ a ∧ s'.os = sI.os ∧ AllBare s'.gens
theorem err_call (Er : ErrI X.prog X.K C f) (I : L2.Inv X pins σ H s) (hm : X.mg "super" = none) (hr : Room (k + 1) X.A) {y : V} {u : Value} (ry : RelV y u) :
    wpAny (model X.prog X.w) X.A (call (.ref C) [u]) (Made X pins σ H C f y) X.xe s := by
  obtain ⟨mb, hb1, hb2⟩ := I.mod.blt
  obtain ⟨nm, N, qn, bs, bm, hdct, sn, sub, ab, col, dc, k0, k1, k2, k3, k5, hC, hT⟩ := PySem.W.excInit_of I.kIn Er.xin
  have glob := I.mod.glob.keeps I.bk
  have blt := hb1.keeps I.bk
  have nol := I.nolimit
  have kin := I.kIn
  have nx : H (s.heap.objs.size + 1) = none := I.hok.fresh (Nat.le_succ _)
  obtain ⟨hp, g, dr, tk, os⟩ := s
  refine wpAny_call (PySem.HandSPX.call_own Er.base.fb hT hC (PySem.W.looks_findIn kin Er.ini) (fun self => PySem.W.bind_fn kin self Er.tyI) (show 1 ≤ sizeLine by decide) (err_init Er kin glob hm blt hb2 nol (hr.make C [u] []).depth fun h' dx t' hsh tq tk' kp e1 e2 l1 l2 => ⟨rfl, ?_⟩))
  have nd : H dx = none := I.hok.fresh l1
  obtain ⟨G, g1, g2⟩ := restrict h' fun b => decide (b ≠ hp.objs.size + 1)
  have gk : ∀ b, b ≠ hp.objs.size + 1 → G.get? b = h'.get? b := fun b hb => g1 b (decide_eq_true hb)
  have gn : G.get? (hp.objs.size + 1) = none := g2 _ (by simp)
  refine ⟨hp.objs.size + 1, dx, t', ⟨G, g, dr, tk', os⟩, rfl, I.laid (fun b o e => ?_) l1 ⟨_, ns1_one ((gk _ l2).trans e2), fun z => ?_⟩, fun b o e => ?_, gn, e1, nx, nd, l2, rfl, I.bare⟩
  · rw [gk b (fun q => by subst q; exact absurd (Heap.lt_size e) (Nat.not_lt.mpr (Nat.le_succ _)))]
    exact kp b o e
  · by_cases q : z = f
    · subst q
      simp [List.lookup]
      exact ry
    · have q' : (z == f) = false := by simpa using q
      simp [List.lookup, q, q']
      trivial
  · by_cases q : b = hp.objs.size + 1
    · subst q
      rw [gn] at e
      cases e
    · rw [gk b q] at e
      exact e
end
/-! ### raise C(e), C(e) as a value -/
abbrev DM := Ev → Mem → Option (R (Str × List (Str × Vl)) × Mem)
def rdM (K : PySem.W.Frag) (W : WX) (d : DM) : L2.St → Hp → XK → Prop := fun σ H Q => ∃ ρ env m r m', S K ρ env m σ H ∧ d env m = some (r, m') ∧ ∀ ρ' H', RM K ρ' m' H' → Ext ρ H ρ' H' → match r with
  | .ok q => ∀ dd, XD K ρ' H' dd q.2 → Q (.ref (He.ga K q.1)) dd H'
  | .ex c fs => ∀ dd, XD K ρ' H' dd fs → W (.ref (He.ga K c)) dd σ H'
structure SMk (X : Cx) (e : Expr) (d : DM) : Prop where
  run : ∀ W, Takes X W → PMk X e (rdM X.K W d)
def dMk (c f : Str) (d : DA) : DM := fun env m => bindR (d env m) fun xs m => match xs with
  | [x] => some (.ok (c, [(f, x)]), m)
  | _ => none
def dErrV (c f : Str) (d : DA) : DE := fun env m => bindR (d env m) fun xs m => match xs with
  | [x] => some (.ok (.err c [(f, x)]), m)
  | _ => none
def dRaise (d : DM) : DS := fun env m => match d env m with
  | some (.ok q, m') => some (.ex q.1 q.2 env, m')
  | some (.ex c fs, m') => some (.ex c fs env, m')
  | none => none
section
variable {X : Cx} {e : Expr} {d : DA} {dm : DM} {c f : Str} {p pos : Pos} {k : Nat}
theorem sm_err (Er : ErrI X.prog X.K (He.ga X.K c) f) (hsup : X.mg "super" = none) (hr : Room (k + 1) X.A) (hm : X.mg c = some (.ref (He.ga X.K c))) (hg : Gl X c) (ha : SA X [e] d) (hdb : (c == ("__debug__" : Str)) = false := by decide)
    (he : starEach (e :: []) X.env = (false, eval e X.env) :: starEach [] X.env := by rfl) : SMk X (.Call (.Name c p) [e] [] pos) (dMk c f d) := ⟨fun W tk pins s σ H Q I h => by
  obtain ⟨ρ, env, m, r, m', st, ee, pp⟩ := h
  have h' : rdA X.K W d σ H (fun vs H1 => ∃ ρ1 x y, vs = [y] ∧ RM X.K ρ1 m' H1 ∧ RV X.K ρ1 H1 x y ∧ ∀ ρ' H', RM X.K ρ' m' H' → Ext ρ1 H1 ρ' H' → ∀ dd, XD X.K ρ' H' dd [(f, x)] → Q (.ref (He.ga X.K c)) dd H') := by
    unfold dMk bindR at ee
    split at ee
    · cases ee
    · rename_i xs m1 h0
      dsimp only at ee
      split at ee
      · rename_i x
        cases ee
        refine goA st h0 fun ρ' H' vs s' E rv => ?_
        obtain ⟨y, ys, rfl, r1, r2⟩ := rv
        have r2' : ys = [] := r2
        subst r2'
        exact ⟨ρ', x, y, rfl, s'.mem, r1, fun ρ2 H2 M2 E2 => pp ρ2 H2 M2 (E.trans E2)⟩
      · cases ee
    · rename_i c' fs' m1 h0
      cases ee
      exact exA st h0 fun ρ' H' dd s' E x => pp ρ' H' s'.mem E dd x
  refine wpAny_Call_Name_kw (ld_glob I hg hm ?_ hdb)
  refine PySem.W.callWith_K (h₀ := X.base) I.ok.mod.kin Er.kC (thn ((ha.run W tk).run pos pins s σ H _ I h') fun us s1 ⟨vs, H1, I1, rl, q⟩ => ⟨I1.kIn, ?_⟩) he rfl
  obtain ⟨ρ1, x, y, rfl, M1, rx, k1⟩ := q
  cases rl with
  | cons r1 r2 =>
    cases r2
    refine wpAny_mono (err_call Er I1 hsup hr r1) (fun u s2 mk => ?_) fun _ _ z => z
    obtain ⟨a, dd, t, sI, rfl, J, kp, na, ea, nh, nd, ne, os, ag⟩ := mk.ex
    have E1 := ext_new (ρ := ρ1) (o := .xd [(f, y)]) nd
    refine ⟨a, _, _, sI, _, .ref (He.ga X.K c), some dd, rfl, J, kp, na, ea, ⟨rfl, rfl⟩, rfl, rfl, by rw [upd_ne (Ne.symm ne)]; exact nh, os, ag, raises_own Er.exC Er.tyC, ?_⟩
    exact k1 ρ1 _ (M1.laid nd) E1 (some dd) ⟨_, upd_same, M1.fresh nd, y, [], rfl, rx.mono E1, rfl⟩⟩
theorem ss_raise (hc : X.calm = true) (h : SMk X e dm) : SS X (.Raise (some e) none pos) (dRaise dm) := ⟨fun W tk => impPS (ps_raise hc tk (h.run W tk)) fun D σ H ⟨ρ, env, m, fl, m', s, ee, p⟩ => by
  unfold dRaise at ee
  split at ee
  · rename_i q m1 h0
    cases ee
    exact ⟨ρ, env, m, _, _, s, h0, fun ρ' H' M E dd x => p ρ' H' M E σ (s.env.mono E) dd x⟩
  · rename_i c' fs m1 h0
    cases ee
    exact ⟨ρ, env, m, _, _, s, h0, fun ρ' H' M E dd x => p ρ' H' M E σ (s.env.mono E) dd x⟩
  · cases ee⟩
/-- C(e) as a value -/
theorem se_errV (Er : ErrI X.prog X.K (He.ga X.K c) f) (hex : X.ex = []) (hsup : X.mg "super" = none) (hr : Room (k + 1) X.A) (hm : X.mg c = some (.ref (He.ga X.K c))) (hg : Gl X c) (ha : SA X [e] d) (hdb : (c == ("__debug__" : Str)) = false := by decide)
    (he : starEach (e :: []) X.env = (false, eval e X.env) :: starEach [] X.env := by rfl) : SE X (.Call (.Name c p) [e] [] pos) (dErrV c f d) := ⟨fun W tk => ⟨fun pins s σ H Q I h => by
  obtain ⟨ρ, env, m, r, m', st, ee, pp⟩ := h
  have h' : rdA X.K W d σ H (fun vs H1 => ∃ ρ1 x y, vs = [y] ∧ RM X.K ρ1 m' H1 ∧ RV X.K ρ1 H1 x y ∧ ∀ ρ' H', RM X.K ρ' m' H' → Ext ρ1 H1 ρ' H' → ∀ v, RV X.K ρ' H' (.err c [(f, x)]) v → Q v H') :=
    bindA st ee pp fun xs m1 ρ1 H1 vs s1 E1 r1 e1 p1 => by
      split at e1
      · rename_i x
        cases e1
        obtain ⟨y, ys, rfl, q1, q2⟩ := r1
        have q2' : ys = [] := q2
        subst q2'
        exact ⟨ρ1, x, y, rfl, s1.mem, q1, fun ρ2 H2 M2 E2 => p1 ρ2 H2 M2 E2⟩
      · cases e1
  refine wpAny_Call_Name_kw (ld_glob I hg hm ?_ hdb)
  refine PySem.W.callWith_K (h₀ := X.base) I.ok.mod.kin Er.kC (thn ((ha.run W tk).run pos pins s σ H _ I h') fun us s1 ⟨vs, H1, I1, rl, q⟩ => ⟨I1.kIn, ?_⟩) he rfl
  obtain ⟨ρ1, x, y, rfl, M1, rx, k1⟩ := q
  cases rl with
  | cons r1 r2 =>
    cases r2
    refine wpAny_mono (err_call Er I1 hsup hr r1) (fun u s2 mk => ?_) fun _ _ z => z
    obtain ⟨a, dd, t, sI, rfl, J, kp, na, ea, nh, nd, ne, os, ag⟩ := mk.ex
    obtain ⟨hI, gI, dI, tI, oI⟩ := sI
    obtain ⟨h2, g2, d2, t2, o2⟩ := s2
    have n0 : X.s_0.heap.get? a = none := by
      rcases hz : X.s_0.heap.get? a with _ | o
      · rfl
      · obtain ⟨o', q⟩ := J.base.there a o hz (by rw [hex]; exact fun q => nomatch q)
        cases na.symm.trans q
    have nh' : upd H1 dd (.xd [(f, y)]) a = none := by rw [upd_ne (Ne.symm ne)]; exact nh
    have J2 : L2.Inv X pins σ (upd H1 dd (.xd [(f, y)])) ⟨h2, g2, d2, t2, o2⟩ := by
      have e : o2 = oI := os
      subst e
      exact J.call' (ch := []) rfl (Un.kept kp) (J.hok.kept kp) ag (fun b z => absurd z (by simp))
    have T2 := Inv.track (o := exq a (He.ga X.K c) (some dd)) J2 ea nh' n0 (fun z => ?_) (fun y' c' hc z => ?_) (fun p hp z => ?_) (exq_ok ea rfl rfl rfl)
    · have E1 := ext_new (ρ := ρ1) (o := .xd [(f, y)]) nd
      have M2 := M1.laid (o := .xd [(f, y)]) nd
      exact ⟨.ref a, _, T2, rfl, k1 ρ1 _ (M2.laid nh') (E1.trans (ext_new nh')) _ (rv_err M2 (dd := some dd) ⟨_, upd_same, M1.fresh nd, y, [], rfl, rx.mono E1, rfl⟩ nh')⟩
    · obtain ⟨mm, hn, _⟩ := J.loc
      obtain ⟨o, _, _, ho, _⟩ := hn
      rw [← z] at ho
      cases na.symm.trans ho
    · obtain ⟨v, o, ho, _⟩ := J.cell y' c' hc
      rw [z] at ho
      cases na.symm.trans ho
    · have := (J.pin p hp).1
      rw [z] at this
      cases na.symm.trans this⟩⟩
end
end Z
namespace Z
open PySem PySem.Spec PyProof.Rows L2
/-! ### an error that is a value: its fields, its kinds -/
structure ErrK (K : PySem.W.Frag) (c : Str) : Prop where
  cl : (PySem.W.clsIn K (He.ga K c)).isSome = true
  ga : PySem.W.findIn K (.ref (He.ga K c)) "__getattribute__" = some (some (.builtin "BaseException.__getattribute__"))
  gg : PySem.W.findIn K (.ref (He.ga K c)) "__getattr__" = some none
  exC : PySem.W.subIn K (.ref (He.ga K c)) (.type "BaseException") = some true
  hdC : PySem.W.hasDictIn K (He.ga K c) = true
  ha : PySem.W.findIn K (.ref (He.ga K c)) "__class__" = some (some (.builtin "object.__class__"))
  hn : PySem.W.specialIn K (.builtin "object.__class__") "__get__" = some (some (.builtin "getset_descriptor.__get__"))
  ht : PySem.W.takesIn K (.builtin "object.__class__") = some true
  hm : PySem.W.mroIn K (He.ga K c) (.type "object") = some true
def ErrA (K : PySem.W.Frag) (cs : List Str) : Prop := ∀ c ∈ cs, ErrK K c
section
variable {X : Cx} {pins : List (Addr × Obj)} {σ : L2.St} {H : Hp} {s : Shared} {a C : Addr} {d : Option Addr} {gs : List (Str × V)} {ρ : Lay}
/-- the error at its address, with its dict -/
theorem err_inst (I : L2.Inv X pins σ H s) (e : H a = some (exq a C d)) (x : ErrD ρ H d gs) : ∃ (ox : Obj) (od : Option Obj), PySem.W.InstAt s.heap a ox C od ∧ ∀ f v, gs.lookup f = some v → ∃ o u, od = some o ∧ PySem.W.lookIn f o = some (some u) ∧ RelV v u := by
  have q : ObjOk X.prog X.w H s.heap a (exq a C d) := I.hok a _ e
  obtain ⟨⟨oe, vs, e1, e2, e3, e4⟩, _⟩ := q
  have nc : PySem.W.notCls oe = true := by
    unfold PySem.W.notCls
    rw [e4]
  rcases x with ⟨dd, rfl, _, hd⟩ | ⟨rfl, rfl⟩
  · have q2 : ObjOk X.prog X.w H s.heap dd (.xd gs) := I.hok dd _ hd
    obtain ⟨mA, hns, hr⟩ := q2
    obtain ⟨od, ho, hl⟩ := lookIn_ns hns
    refine ⟨oe, some od, ⟨e1, e2, nc, by rw [e3]; exact ho⟩, fun f v hv => ?_⟩
    obtain ⟨u, hu, ru⟩ := RelO.some_of (v := v) (o := mA f) (by rw [← hv]; exact hr f)
    exact ⟨od, u, rfl, by rw [hl, hu], ru⟩
  · exact ⟨oe, none, ⟨e1, e2, nc, by rw [e3]; trivial⟩, fun f v hv => nomatch hv⟩
end
/-- e.f -/
def dXf (cs : List Str) (f : Str) (de : DE) : DE := fun env m => bindR (de env m) fun x m => match x with
  | .err c fs => if cs.contains c = true then (match fs.lookup f with
    | some v => some (.ok v, m)
    | none => none) else none
  | _ => none
/-- isinstance(e, c) -/
def dIsE (cs : List Str) (kt : Kit) (de du : DE) : DE := fun env m => bindR (de env m) fun x m => bindR (du env m) fun u m => match x, clsD u with
  | .err c _, some t => if cs.contains c = true then (match kt (.c c) t with
    | some b => some (.ok (.bl b), m)
    | none => none) else none
  | _, _ => none
def dIsET (cs : List Str) (kt : Kit) (de : DE) (d : DA) : DE := fun env m => bindR (de env m) fun x m => bindR (d env m) fun us m => match x, clsDs us with
  | .err c _, some ts => if (cs.contains c && decide (us.length ≤ sizeLine)) = true then (match kitAnyD kt (.c c) ts with
    | some b => some (.ok (.bl b), m)
    | none => none) else none
  | _, _ => none
def rIsE1 (K : PySem.W.Frag) : List V → Hp → VK → Prop := fun xs H Q => ∃ (a : Addr) (c : Str) (d : Option Addr) (gs : List (Str × V)) (ρ : Lay) (t : V) (cv : Value) (b : Bool), xs = [.ref a, t] ∧ H a = some (exq a (He.ga K c) d) ∧ ErrD ρ H d gs ∧ ErrK K c ∧ ClsV t cv ∧ PySem.W.kitOne K (.ref (He.ga K c)) cv = some b ∧ Q (.bl b) H
def rIsE2 (K : PySem.W.Frag) : List V → Hp → VK → Prop := fun xs H Q => ∃ (a tp : Addr) (c : Str) (d : Option Addr) (gs : List (Str × V)) (ρ : Lay) (ts : List V) (ws : List Value) (b : Bool), xs = [.ref a, .ref tp] ∧ H tp = some (.tup ts) ∧ H a = some (exq a (He.ga K c) d) ∧ ErrD ρ H d gs ∧ ErrK K c ∧ Paired ClsV ts ws ∧ PySem.W.kitAny K (.ref (He.ga K c)) ws = some b ∧ Q (.bl b) H
section
variable {X : Cx} {e u : Expr} {es : List Expr} {de du : DE} {da : DA} {cs : List Str} {f : Str} {kt : Kit} {p pos : Pos}
theorem se_xf (he : SE X e de) (hE : ErrA X.K cs) (hf : ∀ c ∈ cs, PySem.W.findIn X.K (.ref (He.ga X.K c)) f = some none) (hb : attributeBase e f X.env (eval e X.env) = eval e X.env := by rfl) : SE X (.Attribute e f pos) (dXf cs f de) := ⟨fun W tk => ⟨fun pins s σ H Q I h => by
  obtain ⟨ρ, env, m, r, m', st, ee, pp⟩ := h
  have h' : rdE X.K W de σ H (fun v H1 => ∃ ρ1 c fs x, RM X.K ρ1 m' H1 ∧ RV X.K ρ1 H1 (.err c fs) v ∧ c ∈ cs ∧ fs.lookup f = some x ∧ ∀ w, RV X.K ρ1 H1 x w → Q w H1) :=
    bindE st ee pp fun y m1 ρ1 H1 v s1 E1 r1 e1 p1 => by
      split at e1
      · rename_i c fs
        split at e1
        · rename_i hc
          split at e1
          · rename_i x hx
            cases e1
            exact ⟨ρ1, c, fs, x, s1.mem, r1, List.contains_iff_mem.mp hc, hx, fun w rw' => p1 ρ1 H1 s1.mem .refl w rw'⟩
          · cases e1
        · cases e1
      · cases e1
  refine attr_of hb (thn ((he.run W tk).run pins s σ H _ I h') fun uu s1 ⟨v, H1, I1, rv, ρ1, c, fs, x, M1, ⟨a, d, gs, ev, n1, ea, xd, rf⟩, hc, hl, k1⟩ => ?_)
  subst ev
  obtain rfl : uu = Value.ref a := rv
  have T := hE c hc
  obtain ⟨w, hw, rw'⟩ := rf.get hl
  obtain ⟨ox, od, J, lk⟩ := err_inst I1 ea xd
  obtain ⟨o, u', rfl, hu, ru⟩ := lk f w hw
  exact HandSPX.exc_get I1.kIn J T.ga T.gg T.exC (PySem.W.findObj_own T.hdC (hf c hc) rfl hu) (handed_of ru) ⟨w, H1, I1.tok _, ru, k1 w rw'⟩⟩⟩
theorem kit_err {K : PySem.W.Frag} {c : Str} (T : ErrK K c) {a : Addr} {ox : Obj} {od : Option Obj} : PySem.W.KitX K (.ref a) (.ref (He.ga K c)) (fun h => PySem.W.InstAt h a ox (He.ga K c) od) := PySem.W.kitx_exc T.cl T.ga T.gg T.exC T.ha T.hn T.ht T.hm
theorem call_isE1 : CallR X (.builtin "isinstance") (rIsE1 X.K) := by
  intro pins s σ H xs us Q I r h
  obtain ⟨a, c, d, gs, ρ, t, cv, b, rfl, ea, xd, T, hc, e, q⟩ := h
  obtain ⟨u1, u2, rfl, r1, r2⟩ := vals2 r
  obtain rfl : u1 = Value.ref a := r1
  obtain rfl : u2 = cv := hc.eq r2
  obtain ⟨ox, od, J, _⟩ := err_inst I ea xd
  exact PySem.W.kia_one (kit_err T) I.kIn J e (fun z => nomatch z) fun tk => ⟨.bl b, H, I.tok tk, rfl, q⟩
theorem call_isE2 : CallR X (.builtin "isinstance") (rIsE2 X.K) := by
  intro pins s σ H xs us Q I r h
  obtain ⟨a, tp, c, d, gs, ρ, ts, ws, b, rfl, hT, ea, xd, T, hc, e, q⟩ := h
  obtain ⟨u1, u2, rfl, r1, r2⟩ := vals2 r
  obtain rfl : u1 = Value.ref a := r1
  obtain rfl : u2 = Value.ref tp := r2
  obtain ⟨ox, od, J, _⟩ := err_inst I ea xd
  have hk : ObjOk X.prog X.w H s.heap tp (.tup ts) := I.hok tp _ hT
  obtain ⟨_, its, rv, o, h1, h2, n, h3⟩ := hk
  obtain ⟨oc, od', dt, sl⟩ := o
  dsimp only at h2 h3
  subst h2 h3
  have e3 := ClsV.all hc rv
  subst e3
  exact PySem.W.kia_tup (kit_err T) I.kIn J h1 e (fun z => nomatch z) fun tk => ⟨.bl b, H, I.tok tk, rfl, q⟩
theorem se_isE (hE : ErrA X.K cs) (hk : KitOk X.K kt) (hg : Gl X "isinstance") (hm : X.mg "isinstance" = none) (he : SE X e de) (hu : SE X u du)
    (hs : starEach [e, u] X.env = (false, eval e X.env) :: starEach [u] X.env := by rfl) (hs2 : starEach [u] X.env = (false, eval u X.env) :: starEach [] X.env := by rfl)
    (hpl : (backTo pos (starEach [u] X.env)).any (·.1) = false := by rfl) : SE X (.Call (.Name "isinstance" p) [e, u] [] pos) (dIsE cs kt de du) := ⟨fun W tk =>
  impPE (pe_callB call_isE1 hg hm (by decide +kernel) (pa_cons (he.run W tk) (pa_cons (hu.run W tk) pa_nil hs2) hs) (by decide) (by decide) hs hpl) fun σ H Q ⟨ρ, env, m, z, m', s, e, p⟩ =>
    bindE s e p fun y m1 ρ1 H1 v s1 E1 r1 e1 p1 => bindE s1 e1 p1 fun t m2 ρ2 H2 w s2 E2 r2 e2 p2 => by
      split at e2
      · rename_i c fs t' ht
        split at e2
        · rename_i hc
          split at e2
          · rename_i b hb
            cases e2
            obtain ⟨a, d, gs, rfl, n1, ea, xd, rf⟩ := r1.mono E2
            exact ⟨a, c, d, gs, ρ2, w, _, b, rfl, ea, xd, hE c (List.contains_iff_mem.mp hc), clsD_ok r2 ht, hk _ _ _ hb, p2 ρ2 H2 s2.mem .refl _ rfl⟩
          · cases e2
        · cases e2
      · cases e2⟩
theorem se_isET {tk' : Nat} {tpos : Pos} (hE : ErrA X.K cs) (hk : KitOk X.K kt) (hg : Gl X "isinstance") (hm : X.mg "isinstance" = none) (he : SE X e de) (ha : SA X es da)
    (hs : starEach [e, .Tuple es tk' tpos] X.env = (false, eval e X.env) :: starEach [.Tuple es tk' tpos] X.env := by rfl) (hs2 : starEach [.Tuple es tk' tpos] X.env = (false, eval (.Tuple es tk' tpos) X.env) :: starEach [] X.env := by rfl)
    (hpl : (backTo pos (starEach [.Tuple es tk' tpos] X.env)).any (·.1) = false := by rfl) : SE X (.Call (.Name "isinstance" p) [e, .Tuple es tk' tpos] [] pos) (dIsET cs kt de da) := ⟨fun W tk =>
  impPE (pe_callB call_isE2 hg hm (by decide +kernel) (pa_cons (he.run W tk) (pa_cons (pe_tup (ha.run W tk)) pa_nil hs2) hs) (by decide) (by decide) hs hpl) fun σ H Q ⟨ρ, env, m, z, m', s, e, p⟩ =>
    bindE s e p fun y m1 ρ1 H1 v s1 E1 r1 e1 p1 => bindA s1 e1 p1 fun us m2 ρ2 H2 vs s2 E2 r2 e2 p2 => by
      split at e2
      · rename_i c fs ts hts
        split at e2
        · rename_i hc
          rw [Bool.and_eq_true, decide_eq_true_eq] at hc
          split at e2
          · rename_i b hb
            cases e2
            refine ⟨by rw [← r2.length]; exact hc.2, fun q hq => ?_⟩
            have E3 : Ext ρ2 H2 ρ2 (upd H2 q (.tup vs)) := ext_new hq
            have M3 : RM X.K ρ2 _ (upd H2 q (.tup vs)) := s2.mem.laid hq
            obtain ⟨a, d, gs, rfl, n1, ea, xd, rf⟩ := (r1.mono E2).mono E3
            exact ⟨a, q, c, d, gs, ρ2, vs, _, b, rfl, upd_same, ea, xd, hE c (List.contains_iff_mem.mp hc.1), clsDs_ok r2 hts, kitAnyD_ok hk hb, p2 ρ2 _ M3 E3 _ rfl⟩
          · cases e2
        · cases e2
      · cases e2⟩
end
end Z
namespace Z
open PySem PySem.Spec PyProof.Rows L2
/-! ### facts of own errors that the head's run checks -/
def ckErrK (cs : List Str) : Ck := fun K => cs.all fun c => (PySem.W.clsIn K (He.ga K c)).isSome && (He.eqO (PySem.W.findIn K (.ref (He.ga K c)) "__getattribute__") (some (some (.builtin "BaseException.__getattribute__"))) && (He.eqO (PySem.W.findIn K (.ref (He.ga K c)) "__getattr__") (some none) &&
  (decide (PySem.W.subIn K (.ref (He.ga K c)) (.type "BaseException") = some true) && (PySem.W.hasDictIn K (He.ga K c) && (He.eqO (PySem.W.findIn K (.ref (He.ga K c)) "__class__") (some (some (.builtin "object.__class__"))) && (He.eqO (PySem.W.specialIn K (.builtin "object.__class__") "__get__") (some (some (.builtin "getset_descriptor.__get__"))) &&
  (decide (PySem.W.takesIn K (.builtin "object.__class__") = some true) && decide (PySem.W.mroIn K (He.ga K c) (.type "object") = some true))))))))
theorem ckErrK_ok {K : PySem.W.Frag} {cs : List Str} (h : ckErrK cs K = true) : ErrA K cs := fun c hc => by
  have := List.all_eq_true.mp h c hc
  simp only [Bool.and_eq_true, decide_eq_true_eq] at this
  obtain ⟨h1, h2, h3, h4, h5, h6, h7, h8, h9⟩ := this
  exact ⟨h1, He.eqO_ok h2, He.eqO_ok h3, h4, h5, He.eqO_ok h6, He.eqO_ok h7, h8, h9⟩
def ckXfN (cs : List Str) (f : Str) : Ck := fun K => cs.all fun c => He.eqO (PySem.W.findIn K (.ref (He.ga K c)) f) (some none)
theorem ckXfN_ok {K : PySem.W.Frag} {cs : List Str} {f : Str} (h : ckXfN cs f K = true) : ∀ c ∈ cs, PySem.W.findIn K (.ref (He.ga K c)) f = some none := fun c hc => He.eqO_ok (List.all_eq_true.mp h c hc)
def exTb (tb : List (Str × Str × Bool)) : ExT := fun c k => match tb.find? fun p => decide (p.1 = c) && decide (p.2.1 = k) with
  | some p => some p.2.2
  | none => none
def ckExm (tb : List (Str × Str × Bool)) : Ck := fun K => tb.all fun p => decide (PySem.W.exmOne K (.ref (He.ga K p.1)) (.ref (He.ga K p.2.1)) = some p.2.2)
theorem ckExm_ok {K : PySem.W.Frag} {tb : List (Str × Str × Bool)} (h : ckExm tb K = true) : ExOk K (exTb tb) := fun c k b e => by
  unfold exTb at e
  split at e
  · rename_i p hp
    cases e
    have h1 := List.all_eq_true.mp h p (List.mem_of_find?_eq_some hp)
    have h2 := List.find?_some hp
    simp only [Bool.and_eq_true, decide_eq_true_eq] at h1 h2
    rw [← h2.1, ← h2.2]
    exact h1
  · cases e
def ckErrC (c f : Str) (B initId newId : String) (bmB : List Value) : Ck := fun K => (PySem.W.clsIn K (He.ga K c)).isSome && (decide (PySem.W.mroIn K (He.ga K c) (.ref (He.ga K c)) = some true) && (He.eqO (PySem.W.ks_superIn K (He.ga K c) (He.ga K c) "__init__") (some (some (.builtin initId))) &&
  (decide (PySem.W.subIn K (.ref (He.ga K c)) (.type B) = some true) && (He.eqO (PySem.W.nsIn K cStatics "thirdparty.any") (some none) && (PySem.W.excInitIn K (He.ga K c) bmB newId && (He.eqO (PySem.W.findIn K (.ref (He.ga K c)) "__setattr__") (some (some (.builtin "object.__setattr__"))) &&
  (PySem.W.excOver K (He.ga K c) bmB && (He.eqO (PySem.W.takerIn K (He.ga K c) f) (some none) && (PySem.W.hasDictIn K (He.ga K c) && (He.eqO (PySem.W.findIn K (.ref (He.ga K c)) "__init__") (some (some (.ref (He.ma K (He.ga K c) "__init__")))) &&
  (PySem.W.isFn K (.ref (He.ma K (He.ga K c) "__init__")) && (decide (PySem.W.subIn K (.ref (He.ga K c)) (.type "BaseException") = some true) && (PySem.W.isFn K (.ref (He.ma K (He.ga K c) "__init__")) && (PySem.W.typeIn K (.ref (He.ga K c)) == some (.type "type") && PySem.W.keepIn K (.ref (He.ga K c))))))))))))))))
theorem errI_of {P : Program} {K : PySem.W.Frag} {c f : Str} {e : EZ} {B initId newId : String} {bmB : List Value} {ar arp : Arg} {txt : Str} {p0 p1 p2 p3 p4 p5 q0 q1 q2 q3 : Pos} {ck : Nat} {pl : Env → Sem Bool} (base : BaseF B initId newId bmB) (hE : fnE K (e.adr K) = e.val ∧ e.ok K = true) (hC : ckErrC c f B initId newId bmB K = true)
    (ha : e.adr K = He.ma K (He.ga K c) "__init__") (hc : e.cls K = He.ga K c) (hp : e.params = ⟨[], [ar, arp], none, [], [], none, []⟩) (hb : e.body = [.Expr (.Call (.Attribute (.Call (.Name "super" p0) [] [] p1) "__init__" p2) [.Constant (.str txt) ck p3] [] p4) p5, .Assign [.Attribute (.Name ar.arg q0) f q1] (.Name arp.arg q2) q3])
    (lfile : (P.main.file == e.file) = true) (ltop : (P.main.scope.names.lookup ("super" : Str)).isSome = false) (sup : e.scope.names.lookup ("super" : Str) = some .globalImplicit) (scl : e.scope.names.lookup ("__class__" : Str) = some .free) (sar : e.scope.names.lookup ar.arg = some .local) (sap : e.scope.names.lookup arp.arg = some .local)
    (kind : e.scope.kind = .function) (co : e.scope.isCoroutine = false) (gen : e.scope.isGenerator = false) (nocell : ∀ x ∈ e.scope.names, x.2 ≠ .cell)
    (bind : ∀ (kV doc pm ct : Value) (an : Option Addr) (cda cc : Addr) (a b : Value), bindArgs (PySem.W.ksFn "__init__" e.qual e.params e.body e.scope .none kV doc pm an (.ref cda) ct cc) ⟨[a, b], []⟩ = pure [(ar.arg, a), (arp.arg, b)])
    (hev : ∀ env : Env, eval (.Call (.Attribute (.Call (.Name "super" p0) [] [] p1) "__init__" p2) [.Constant (.str txt) ck p3] [] p4) env = (do
      let ov ← attributeBase (.Call (.Name "super" p0) [] [] p1) "__init__" env (eval (.Call (.Name "super" p0) [] [] p1) env)
      standAt p2.atName
      let (f, first) ← holding [ov] (getMethod ov "__init__" (pl env))
      callWith p4 f first (backTo p4 (starEach [.Constant (.str txt) ck p3] env)) []))
    (dist : ar.arg ≠ arp.arg) (nodb : (ar.arg == ("__debug__" : Str)) = false) (nodp : (arp.arg == ("__debug__" : Str)) = false) : Nonempty (ErrI P K (He.ga K c) f) := by
  obtain ⟨cc, cda, kV, doc, pm, ct, an, oc, od, osl, vs, tf, ccl, cdd, ccs, cl, cld, csl, f1, f2, f3, f4, f5⟩ := EZ.facts hE.1 hE.2
  unfold ckErrC at hC
  simp only [Bool.and_eq_true, decide_eq_true_eq] at hC
  obtain ⟨g1, g2, g3, g4, g5, g6, g7, g8, g9, g10, g11, g12, g13, g14, g15, g16⟩ := hC
  obtain ⟨cd, hcd⟩ := Option.isSome_iff_exists.mp g1
  rw [hc] at f5
  rw [ha] at f1
  obtain ⟨adr, cls, qual, params, body, scope, file⟩ := e
  dsimp only at *
  subst hp hb
  exact ⟨{ B := B, initId := initId, newId := newId, bmB := bmB, base := base, fI := _, cc := cc, cda := cda, qual := qual, ar := ar, arp := arp, scope := scope, txt := txt, p0 := p0, p1 := p1, p2 := p2, p3 := p3, p4 := p4, p5 := p5, q0 := q0, q1 := q1, q2 := q2, q3 := q3, ck := ck, kV := kV, doc := doc, pm := pm, ct := ct, an := an, oc := oc, od := od, osl := osl, lk := f1, code := f2, cvs := vs, file := file, tf := tf, ccl := ccl, cdd := cdd, ccs := ccs, lcd := f3, lvs := f4, lfile := lfile, ltop := ltop, cl := cl, cld := cld, csl := csl, lcell := f5, cdC := cd, lC := hcd, sup := sup, scl := scl, sar := sar, sap := sap, kind := kind, co := co, gen := gen, nocell := nocell, bind := fun a b => bind _ _ _ _ _ _ _ a b, pl := pl, hev := hev, dist := dist, nodb := nodb, nodp := nodp, mroC := g2, above := He.eqO_ok g3, sub := g4, opq := He.eqO_ok g5, xin := g6, sat := He.eqO_ok g7, over := g8, tak := He.eqO_ok g9, hdC := g10, ini := He.eqO_ok g11, tyI := beq_iff_eq.mp g12, exC := g13, tyC := beq_iff_eq.mp g15, kC := g16 }⟩
end Z
namespace Z
open PySem PySem.Spec PyProof.Rows L2
structure ProgF (P : Program) (file : Str) : Prop where
  file : (P.main.file == file) = true
  top : (P.main.scope.names.lookup ("super" : Str)).isSome = false
section
variable {X : Cx} {e : Expr} {d : DA} {c f : Str} {p pos : Pos} {k : Nat}
theorem sm_errN (Er : Nonempty (ErrI X.prog X.K (He.ga X.K c) f)) (hsup : X.mg "super" = none) (hr : Room (k + 1) X.A) (hm : X.mg c = some (.ref (He.ga X.K c))) (hg : Gl X c) (ha : SA X [e] d) (hdb : (c == ("__debug__" : Str)) = false := by decide)
    (he : starEach (e :: []) X.env = (false, eval e X.env) :: starEach [] X.env := by rfl) : SMk X (.Call (.Name c p) [e] [] pos) (dMk c f d) := Er.elim fun E => sm_err E hsup hr hm hg ha hdb he
theorem se_errN (Er : Nonempty (ErrI X.prog X.K (He.ga X.K c) f)) (hex : X.ex = []) (hsup : X.mg "super" = none) (hr : Room (k + 1) X.A) (hm : X.mg c = some (.ref (He.ga X.K c))) (hg : Gl X c) (ha : SA X [e] d) (hdb : (c == ("__debug__" : Str)) = false := by decide)
    (he : starEach (e :: []) X.env = (false, eval e X.env) :: starEach [] X.env := by rfl) : SE X (.Call (.Name c p) [e] [] pos) (dErrV c f d) := Er.elim fun E => se_errV E hex hsup hr hm hg ha hdb he
end
end Z
namespace Z
open PySem PySem.Spec PyProof.Rows L2
/-! ### methods of texts -/
/-- a list of texts -/
def strsL : List Vl → Option (List Str)
  | [] => some []
  | .str b :: xs => (match strsL xs with
    | some bs => some (b :: bs)
    | none => none)
  | _ :: _ => none
theorem strsL_ok {K : PySem.W.Frag} {ρ : Lay} {H : Hp} : ∀ {xs : List Vl} {vs : List V} {bs : List Str}, RVs K ρ H xs vs → strsL xs = some bs → vs = bs.map V.str
  | [], _, _, h, e => by
    cases e
    exact h
  | x :: xs, _, _, ⟨v, r, h1, h2, h3⟩, e => by
    cases x with
    | str b =>
      unfold strsL at e
      split at e
      · rename_i bs hb
        cases e
        rw [h1, strsL_ok h3 hb, show v = V.str b from h2] <;> rfl
      · cases e
    | _ => cases e
theorem rvs_strs {K : PySem.W.Frag} {ρ : Lay} {H : Hp} : ∀ ys : List Str, RVs K ρ H (ys.map Vl.str) (ys.map V.str)
  | [] => rfl
  | y :: ys => ⟨V.str y, _, rfl, rfl, rvs_strs ys⟩
def joinF : FM := fun x xs m => match x, xs with
  | .str a, [y] => (match seqD m y with
    | some ys => (match strsL ys with
      | some bs => if (bs.map (·.length)).sum + bs.length * a.length ≤ 16777216 then some (.str (Txt.join a bs), m) else none
      | none => none)
    | none => none)
  | _, _ => none
section
variable {X : Cx} {pos apos : Pos} {e o : Expr} {d : DA} {de : DE}
theorem smf_join {K : PySem.W.Frag} : SMF K joinF "str" (fun x xs H Q => ∃ a p, ∃ ys : List Str, x = .str a ∧ xs = [.ref p] ∧ (SqL K H p (ys.map V.str) ∨ SqT K H p (ys.map V.str)) ∧
    (ys.map (·.length)).sum + ys.length * a.length ≤ 16777216 ∧ Q (.str (Txt.join a ys)) H) := fun ρ m H x xs v vs z m' Q M a b e k => by
  unfold joinF at e
  split at e
  · rename_i t y
    split at e
    · rename_i ys hy
      split at e
      · rename_i bs hb
        split at e
        · rename_i hz
          cases e
          obtain ⟨w, s, rfl, h1, h2⟩ := b
          subst h2
          obtain ⟨q, ws, rfl, h3, h4⟩ := seqD_ok M h1 hy
          rw [strsL_ok h4 hb] at h3
          exact ⟨t, q, bs, by rw [show v = V.str t from a], rfl, h3, hz, k ρ H _ M .refl rfl⟩
        · cases e
      · cases e
    · cases e
  · cases e
theorem se_join (ho : SE X o de) (ha : SA X [e] d)
    (hbase : attributeBase o "join" X.env (eval o X.env) = eval o X.env := by rfl)
    (hfew : ((backTo pos (starEach [e] X.env)).all (fun x => !x.1) && (backToKw pos (keywordEach [] X.env)).all (fun x => x.1.isSome)
      && decide ([e].length + ([] : List Keyword).length + (if ([] : List Keyword).isEmpty then 0 else 1) < 30)) = true := by rfl)
    (hline : (apos.endLine == pos.line) = true := by rfl) (hs : starEach [e] X.env = (false, eval e X.env) :: starEach [] X.env := by rfl) (hplain : (backTo pos (starEach [] X.env)).any (·.1) = false := by rfl) :
    SE X (.Call (.Attribute o "join" apos) [e] [] pos) (dM "str" joinF de d) := se_bm PySem.F.plainAttrs_str PySem.F.slot_str_join PySem.F.type_str_join mt_join smf_join ho ha hbase hfew hline hs hplain
/-- of a text alone -/
def txtF (c : Str → Bool) (g : Str → Vl) : FM := fun x xs m => match x, xs with
  | .str a, [] => if c a = true then some (g a, m) else none
  | _, _ => none
theorem smf_txt {K : PySem.W.Frag} {c : Str → Bool} {C : Str → Prop} {g : Str → Vl} {h : Str → V} (hc : ∀ a, c a = true → C a) (hg : ∀ a ρ H, RV K ρ H (g a) (h a)) : SMF K (txtF c g) "str" (fun x xs H Q => ∃ a, x = .str a ∧ xs = [] ∧ C a ∧ Q (h a) H) := fun ρ m H x xs v vs z m' Q M a b e k => by
  unfold txtF at e
  split at e
  · rename_i t
    split at e
    · rename_i q
      cases e
      exact ⟨t, by rw [show v = V.str t from a], b, hc t q, k ρ H _ M .refl (hg t ρ H)⟩
    · cases e
  · cases e
def upperF : FM := txtF (fun a => decide (a.length ≤ 5592405)) (fun a => .str (Txt.upper a))
theorem se_upper (ho : SE X o de) (hbase : attributeBase o "upper" X.env (eval o X.env) = eval o X.env := by rfl) (hline : (apos.endLine == pos.line) = true := by rfl) :
    SE X (.Call (.Attribute o "upper" apos) [] [] pos) (dM "str" upperF de dNone) := se_bm0 PySem.F.plainAttrs_str PySem.F.slot_str_upper PySem.F.type_str_upper mt_upper (smf_txt (fun _ h => of_decide_eq_true h) fun _ _ _ => rfl) ho hbase hline
def lstripF : FM := txtF (fun a => decide (a.length ≤ sizeLine)) (fun a => .str (Txt.lstrip a))
theorem se_lstrip (ho : SE X o de) (hbase : attributeBase o "lstrip" X.env (eval o X.env) = eval o X.env := by rfl) (hline : (apos.endLine == pos.line) = true := by rfl) :
    SE X (.Call (.Attribute o "lstrip" apos) [] [] pos) (dM "str" lstripF de dNone) := se_bm0 PySem.F.plainAttrs_str PySem.F.slot_str_lstrip PySem.F.type_str_lstrip mt_lstrip (smf_txt (fun _ h => of_decide_eq_true h) fun _ _ _ => rfl) ho hbase hline
/-- x.insert(i, y) -/
def insH (ys xs : List Vl) : Option (Vl × List Vl) := match xs with
  | [.int i, y] => if (decide (ys.length < sizeLine) && (decide (0 ≤ i) && decide (i < 2 ^ 63))) = true then some (.non, ys.take i.toNat ++ [y] ++ ys.drop i.toNat) else none
  | _ => none
theorem smf_ins {K : PySem.W.Frag} : SMF K (lstM insH) "list" (fun x vs H Q => ∃ (l : Addr) (xs : List V) (i : Int) (y : V), x = .ref l ∧ vs = [.int i, y] ∧ H l = some (.lst xs) ∧ xs.length < sizeLine ∧ 0 ≤ i ∧ i < 2 ^ 63 ∧
    Q .non (upd H l (.lst (xs.take i.toNat ++ [y] ++ xs.drop i.toNat)))) := smf_lst fun ρ H a ys xs zs us vs z Q h1 h2 b e k => by
  unfold insH at e
  split at e
  · rename_i i y
    split at e
    · rename_i c
      cases e
      rw [Bool.and_eq_true, Bool.and_eq_true, decide_eq_true_eq, decide_eq_true_eq, decide_eq_true_eq] at c
      obtain ⟨v, s, rfl, r1, w, s2, rfl, r2, r3⟩ := b
      subst r3
      exact ⟨a, us, i, w, rfl, by rw [show v = V.int i from r1], h1, by rw [← h2.length]; exact c.1, c.2.1, c.2.2, k _ _ rfl (((h2.take i.toNat).append (show RVs K ρ H [y] [w] from ⟨w, [], rfl, r2, rfl⟩)).append (h2.drop i.toNat))⟩
    · cases e
  · cases e
theorem se_insert {e2 : Expr} (ho : SE X o de) (ha : SA X [e, e2] d)
    (hbase : attributeBase o "insert" X.env (eval o X.env) = eval o X.env := by rfl)
    (hfew : ((backTo pos (starEach [e, e2] X.env)).all (fun x => !x.1) && (backToKw pos (keywordEach [] X.env)).all (fun x => x.1.isSome)
      && decide ([e, e2].length + ([] : List Keyword).length + (if ([] : List Keyword).isEmpty then 0 else 1) < 30)) = true := by rfl)
    (hline : (apos.endLine == pos.line) = true := by rfl) (hs : starEach [e, e2] X.env = (false, eval e X.env) :: starEach [e2] X.env := by rfl) (hplain : (backTo pos (starEach [e2] X.env)).any (·.1) = false := by rfl) :
    SE X (.Call (.Attribute o "insert" apos) [e, e2] [] pos) (dM "list" (lstM insH) de d) := se_bm PySem.F.plainAttrs_list PySem.F.slot_list_insert PySem.F.type_list_insert mt_insert smf_ins ho ha hbase hfew hline hs hplain
/-! x.split(sep): a new list -/
def splitH (x : Vl) (xs : List Vl) : Option (List Vl) := match x, xs with
  | .str a, [.str b] => if (!(b.length == 0) && decide (a.length + 2 ≤ sizeLine)) = true then some ((Txt.split a b).map Vl.str) else none
  | _, _ => none
def dSplit (de : DE) (d : DA) : DA := fun env m => bindR (de env m) fun x m => if tyM "str" m x = true then bindR (d env m) fun xs m => (match splitH x xs with
  | some ys => some (.ok ys, m)
  | none => none) else none
theorem sl_split (ho : SE X o de) (ha : SA X [e] d)
    (hbase : attributeBase o "split" X.env (eval o X.env) = eval o X.env := by rfl)
    (hfew : ((backTo pos (starEach [e] X.env)).all (fun x => !x.1) && (backToKw pos (keywordEach [] X.env)).all (fun x => x.1.isSome)
      && decide ([e].length + ([] : List Keyword).length + (if ([] : List Keyword).isEmpty then 0 else 1) < 30)) = true := by rfl)
    (hline : (apos.endLine == pos.line) = true := by rfl) (hs : starEach [e] X.env = (false, eval e X.env) :: starEach [] X.env := by rfl) (hplain : (backTo pos (starEach [] X.env)).any (·.1) = false := by rfl) :
    SL X (.Call (.Attribute o "split" apos) [e] [] pos) (dSplit de d) := ⟨fun W tk =>
  impPE (pe_bm PySem.F.plainAttrs_str PySem.F.slot_str_split PySem.F.type_str_split mt_split (ho.run W tk) (ha.run W tk) hbase hfew hline hs hplain) fun σ H Q ⟨ρ, env, m, z, m', s, e, p⟩ => by
    unfold dSplit bindR at e
    split at e
    · cases e
    · rename_i x m1 h0
      refine goE s h0 fun ρ1 H1 v s1 E1 r1 => ?_
      dsimp only at e
      split at e
      · rename_i ht
        refine ⟨tyM_ok s1.mem r1 ht, ?_⟩
        split at e
        · cases e
        · rename_i xs m2 h2
          refine goA s1 h2 fun ρ2 H2 vs s2 E2 r2 => ?_
          split at e
          · rename_i ys hy
            cases e
            unfold splitH at hy
            split at hy
            · rename_i a b
              split at hy
              · rename_i c
                cases hy
                rw [Bool.and_eq_true, decide_eq_true_eq] at c
                obtain ⟨w, t, rfl, q1, q2⟩ := r2
                subst q2
                have hl : (Txt.split a b).length ≤ sizeLine := Nat.le_trans (PyProof.Rows.split_le a b) c.2
                exact ⟨a, b, by rw [show v = V.str a from r1], by rw [show w = V.str b from q1], by simpa using c.1, c.2, fun l hl' => p ρ2 _ (s2.mem.laid hl') ((E1.trans E2).trans (ext_new hl')) _ ⟨l, _, rfl, ⟨s2.mem.fresh hl', s2.mem.freshz hl', (E1.trans E2).none hl'⟩, upd_same, by rw [List.length_map]; exact hl, rvs_strs _⟩⟩
              · cases hy
            · cases hy
          · cases e
        · rename_i c fs m2 h2
          cases e
          exact exA s1 h2 fun ρ' H' dd s' E r => p ρ' H' s'.mem (E1.trans E) dd r
      · cases e
    · rename_i c fs m1 h0
      cases e
      exact exE s h0 fun ρ' H' dd s' E r => p ρ' H' s'.mem E dd r⟩
end
end Z
namespace Z
open PySem PySem.Spec PyProof.Rows L2
/-! ### classmethods, and a class in a local name -/
/-- the def of a classmethod -/
def cmA (K : PySem.W.Frag) (c m : Str) : Addr := match PySem.W.recIn K (He.ma K (He.ga K c) m) "classmethod" with
  | some (.ref g :: _) => g
  | _ => 0
structure CMd (K : PySem.W.Frag) (c m : Str) : Prop where
  rd : ClX.CRead K (He.ga K c) (.type "type")
  cm : ClX.CMet K (He.ga K c) (.type "type") m (He.ma K (He.ga K c) m) (cmA K c m)
def isCmF (r : Option PySem.W.CFound) (p C : Addr) : Bool := match r with
  | some (.get (.builtin b) (.ref p') .none (.ref C')) => decide (b = "classmethod.__get__") && (decide (p' = p) && decide (C' = C))
  | _ => false
theorem isCmF_ok {r : Option PySem.W.CFound} {p C : Addr} (h : isCmF r p C = true) : r = some (.get (.builtin "classmethod.__get__") (.ref p) .none (.ref C)) := by
  unfold isCmF at h
  split at h
  · simp only [Bool.and_eq_true, decide_eq_true_eq] at h
    rw [h.1, h.2.1, h.2.2]
  · cases h
def ckCM (c m : Str) : Ck := fun K => PySem.W.readsIn K (He.ga K c) (.type "type") && (He.eqO (PySem.W.specialIn K (.ref (He.ga K c)) "__getattribute__") (some (some (.builtin "type.__getattribute__"))) &&
  (isCmF (PySem.W.findCls K (.ref (He.ga K c)) (.type "type") m) (He.ma K (He.ga K c) m) (He.ga K c) && ((match PySem.W.recIn K (He.ma K (He.ga K c) m) "classmethod" with
    | some (.ref _ :: _) => true
    | _ => false) && PySem.W.fnIn K (cmA K c m))))
theorem ckCM_ok {K : PySem.W.Frag} {c m : Str} (h : ckCM c m K = true) : CMd K c m := by
  unfold ckCM at h
  simp only [Bool.and_eq_true] at h
  obtain ⟨h1, h2, h3, h4, h5⟩ := h
  refine ⟨⟨h1, He.eqO_ok h2⟩, isCmF_ok h3, ?_, h5⟩
  split at h4
  · rename_i g rest q
    refine ⟨rest, ?_⟩
    unfold cmA
    rw [q]
  · cases h4
section
variable {X : Cx} {o e : Expr} {es : List Expr} {c mn : Str} {pos apos p : Pos} {de : DE} {d : DA} {k n : Nat} {f : Addr} {ks : List Str} {gz : List Vl → List Vl → List Vl} {g : FD} {W : WX}
theorem Fz.code (F : Fz X.prog X.w X.K X.mg X.base k f n ks gz g) (hr : Room k X.A) (tk : Takes X W) {pins : List (Addr × Obj)} {σ : L2.St} {H : Hp} {s : Shared} {Q : VK} {us ws : List Value} {vs zs : List V} {ρ : Lay} {m m' : Mem} {xs ys : List Vl} {r : R Vl}
    (I : Inv X pins σ H s) (a : Vals vs us) (b : Vals zs ws) (M : RM X.K ρ m H) (ra : RVs X.K ρ H xs vs) (rb : RVs X.K ρ H ys zs) (hn : xs.length = n) (hk : ys.length = ks.length) (e : g (gz xs ys) m = some (r, m'))
    (p : Po X.K ρ H (RV X.K) (fun c dd H' => W c dd σ H') Q r m') : codeAny (model X.prog X.w) X.A (.call (.ref f) ⟨us, ks.zip ws⟩) (fun r s' => match r with | .ok (.ret v) => EP X pins σ Q v s' | .ok _ => False | .error e => X.xe e s') s := by
  obtain ⟨fd, ps, gs, gV, h1, h2, h3⟩ := F.ex
  have q := h3 ρ H xs vs ys zs hn hk ra rb
  have kb := h2.to s us ws I.kIn (by rw [← a.length, ← ra.length]; exact hn) (by rw [← b.length, ← rb.length]; exact hk)
  refine codeAny_mono (h1.run X.A X.stack s H ⟨us, ks.zip ws⟩ (gs us ws) (gV vs zs) Q (fun c dd H' => W c dd σ H') hr I.env0 kb (h2.rel a b) ⟨q.1, ρ, m, _, r, m', M, q.2, e, p⟩) fun r s' hq => ?_
  rcases r with er | fl
  · exact tk er s' (XE.of_call I (fun _ _ _ z => z) hq)
  · cases fl <;> first | exact I.after hq | exact hq.elim
def dCMeth (c : Str) (n : Nat) (gz : List Vl → List Vl → List Vl) (g : FD) (de : DE) (d : DA) : DE := fun env m => bindR (de env m) fun x m => match x with
  | .glo c' => if c' = c then bindR (d env m) fun xs m => if xs.length = n then g (gz (.glo c :: xs) []) m else none else none
  | _ => none
theorem se_cmeth {pl : Sem Bool} (he : SE X o de) (h : CMd X.K c mn) (F : Fz X.prog X.w X.K X.mg X.base k (cmA X.K c mn) (n + 1) [] gz g) (hr : Room k X.A) (ha : SA X (e :: es) d)
    (hst : starEach (e :: es) X.env = (false, eval e X.env) :: starEach es X.env := by rfl) (hpl : (backTo pos (starEach es X.env)).any (·.1) = false := by rfl)
    (ht : eval (.Call (.Attribute o mn apos) (e :: es) [] pos) X.env = (do
      let ov ← eval o X.env
      standAt apos.atName
      let (f, first) ← holding [ov] (getMethod ov mn pl)
      callWith pos f first (backTo pos (starEach (e :: es) X.env)) (backToKw pos (keywordEach [] X.env))) := by rfl) :
    SE X (.Call (.Attribute o mn apos) (e :: es) [] pos) (dCMeth c n gz g de d) := ⟨fun W tk => ⟨fun pins s σ H Q I h0 => by
  obtain ⟨ρ, env, m, z, m', st, ee, pp⟩ := h0
  have h' : rdE X.K W de σ H (fun v H1 => v = .ref (He.ga X.K c) ∧ rdA X.K W d σ H1 fun vs H2 => ∃ ρ1 m1 xs, RM X.K ρ1 m1 H2 ∧ RVs X.K ρ1 H2 xs (.ref (He.ga X.K c) :: vs) ∧ xs.length = n + 1 ∧ g (gz xs []) m1 = some (z, m') ∧ Po X.K ρ1 H2 (RV X.K) (fun c dd H' => W c dd σ H') Q z m') :=
    bindE st ee pp fun x m1 ρ1 H1 v s1 E1 r1 e1 p1 => by
      split at e1
      · rename_i c'
        split at e1
        · rename_i hc
          subst hc
          refine ⟨r1, bindA s1 e1 p1 fun xs m2 ρ2 H2 vs s2 E2 r2 e2 p2 => ?_⟩
          split at e2
          · rename_i hn
            exact ⟨ρ2, m2, .glo c' :: xs, s2.mem, ⟨_, _, rfl, rfl, r2⟩, by rw [List.length_cons, hn], e2, p2⟩
          · cases e2
        · cases e1
      · cases e1
  refine PySem.W.methodCall_KW (pl := pl) (thn ((he.run W tk).run pins s σ H _ I h') fun u s1 ⟨x, H1, I1, rx, ex, q⟩ => ?_) ht
  subst ex
  obtain rfl : u = Value.ref (He.ga X.K c) := rx
  refine ClX.getmethcm_ok I1 h.rd h.cm fun s2 I2 => ?_
  refine ClX.callwith_cm I2 (ClX.base_none I1 (Nat.le_refl _)) h.cm.fi (thn ((ha.run W tk).run pos _ s2 σ H1 _ I2 q) fun us s3 ⟨vs, H2, I3, rv, ρ1, m1, xs, M1, rx, hn, e1, p1⟩ => ⟨⟨ClX.pin_at I3, I3.kIn⟩, ?_⟩) hst hpl
  refine thn (wpAny_call (PySem.W.method_call (kw := []) (ClX.pin_at I3) (F.code hr tk (us := .ref (He.ga X.K c) :: us) (vs := .ref (He.ga X.K c) :: vs) (ws := []) I3 (.cons rfl rv) .nil M1 rx (show RVs X.K ρ1 H2 [] [] from rfl) hn rfl e1 p1))) fun _ _ y => ClX.unpinE y⟩⟩
theorem se_cmeth0 {pl : Sem Bool} (he : SE X o de) (h : CMd X.K c mn) (F : Fz X.prog X.w X.K X.mg X.base k (cmA X.K c mn) 1 [] gz g) (hr : Room k X.A)
    (ht : eval (.Call (.Attribute o mn apos) [] [] pos) X.env = (do
      let ov ← eval o X.env
      standAt apos.atName
      let (f, first) ← holding [ov] (getMethod ov mn pl)
      callWith pos f first (backTo pos (starEach [] X.env)) (backToKw pos (keywordEach [] X.env))) := by rfl) :
    SE X (.Call (.Attribute o mn apos) [] [] pos) (dCMeth c 0 gz g de dNone) := ⟨fun W tk => ⟨fun pins s σ H Q I h0 => by
  obtain ⟨ρ, env, m, z, m', st, ee, pp⟩ := h0
  have h' : rdE X.K W de σ H (fun v H1 => v = .ref (He.ga X.K c) ∧ ∃ ρ1 m1 xs, RM X.K ρ1 m1 H1 ∧ RVs X.K ρ1 H1 xs [.ref (He.ga X.K c)] ∧ xs.length = 1 ∧ g (gz xs []) m1 = some (z, m') ∧ Po X.K ρ1 H1 (RV X.K) (fun c dd H' => W c dd σ H') Q z m') :=
    bindE st ee pp fun x m1 ρ1 H1 v s1 E1 r1 e1 p1 => by
      split at e1
      · rename_i c'
        split at e1
        · rename_i hc
          subst hc
          unfold dNone bindR at e1
          simp only [List.length_nil, if_true] at e1
          exact ⟨r1, ρ1, m1, [.glo c'], s1.mem, ⟨_, _, rfl, rfl, rfl⟩, rfl, e1, p1⟩
        · cases e1
      · cases e1
  refine PySem.W.methodCall_KW (pl := pl) (thn ((he.run W tk).run pins s σ H _ I h') fun u s1 ⟨x, H1, I1, rx, ex, ρ1, m1, xs, M1, rx1, hn, e1, p1⟩ => ?_) ht
  subst ex
  obtain rfl : u = Value.ref (He.ga X.K c) := rx
  refine ClX.getmethcm_ok I1 h.rd h.cm fun s2 I2 => ?_
  refine PySem.W.callWith_M0 (K := X.K) ⟨ClX.pin_at I2, I2.kIn⟩ h.cm.fi ?_
  refine thn (wpAny_call (PySem.W.method_call (kw := []) (ClX.pin_at I2) (F.code hr tk (us := [.ref (He.ga X.K c)]) (vs := [.ref (He.ga X.K c)]) (ws := []) I2 (.cons rfl .nil) .nil M1 rx1 (show RVs X.K ρ1 H1 [] [] from rfl) hn rfl e1 p1))) fun _ _ y => ClX.unpinE y⟩⟩
/-- cls(..), cls a local name that holds the class c -/
def dCallL (i : Nat) (c : Str) (n : Nat) (gd : List Vl → List Vl → Mem → Option (R Vl × Mem)) (d : DA) : DE := fun env m => match env[i]? with
  | some (some (.glo c')) => if c' = c then dCall n 0 gd d dNone env m else none
  | _ => none
theorem se_callL {i : Nat} {x : Str} {gd : List Vl → List Vl → Mem → Option (R Vl × Mem)} (R : Z.Runs X (He.ga X.K c) n [] gd) (hk : PySem.W.keepIn X.K (.ref (He.ga X.K c)) = true) (hN : X.N[i]? = some x) (hv : Vis X.env.scope x) (ha : SA X (e :: es) d)
    (hdb : (x == ("__debug__" : Str)) = false := by decide) (hcd : (x == ("__classdict__" : Str)) = false := by decide)
    (he : starEach (e :: es) X.env = (false, eval e X.env) :: starEach es X.env := by rfl) (hpl : (backTo pos (starEach es X.env)).any (·.1) = false := by rfl) : SE X (.Call (.Name x p) (e :: es) [] pos) (dCallL i c n gd d) := ⟨fun W tk => ⟨fun pins s σ H Q I h => by
  obtain ⟨ρ, env, m, z, m', st, ee, pp⟩ := h
  unfold dCallL at ee
  split at ee
  · rename_i c' hv'
    split at ee
    · rename_i hc
      subst hc
      obtain ⟨u0, hs, hr0⟩ := st.env.2 _ _ hv'
      obtain rfl : u0 = V.ref (He.ga X.K c') := hr0
      have h' : rdA X.K W d σ H (fun vs H1 => ∃ ρ1 m1 xs, RM X.K ρ1 m1 H1 ∧ RVs X.K ρ1 H1 xs vs ∧ xs.length = n ∧ gd xs [] m1 = some (z, m') ∧ Po X.K ρ1 H1 (RV X.K) (fun c dd H' => W c dd σ H') Q z m') :=
        bindA st ee pp fun xs m1 ρ1 H1 vs s1 E1 r1 e1 p1 => by
          unfold dNone bindR at e1
          simp only at e1
          split at e1
          · rename_i hn
            exact ⟨ρ1, m1, xs, s1.mem, r1, hn.1, e1, p1⟩
          · cases e1
      refine wpAny_Call_Name_kw (thn ((pe_var (pos := p) hN hv hdb hcd).run pins s σ H (fun v H1 => v = .ref (He.ga X.K c') ∧ H1 = H) I ⟨_, hs, rfl, rfl⟩) fun u s1 ⟨v, H1, I1, r1, q1⟩ => ?_)
      obtain ⟨rfl, rfl⟩ := q1
      obtain rfl : u = Value.ref (He.ga X.K c') := r1
      refine PySem.W.callWith_K (h₀ := X.base) I.ok.mod.kin hk (thn ((ha.run W tk).run pos pins s1 σ _ _ I1 h') fun us s2 ⟨vs, H2, I2, r, q⟩ => ⟨I2.kIn, ?_⟩) he hpl
      obtain ⟨ρ1, m1, xs, M1, rx, hn, e1, p1⟩ := q
      exact R tk (ws := []) I2 r .nil M1 rx (show RVs X.K ρ1 H2 [] [] from rfl) hn rfl e1 p1
    · cases ee
  · cases ee⟩⟩
end
end Z
namespace Z
open PySem PySem.Spec PyProof.Rows L2
/-! ### what the readings of texts, of try and of errors compute -/
section
variable {env : Ev} {m m' : Mem} {c f : Str} {fs : List (Str × Vl)} {da db de du : DE} {d : DA} {i : Nat} {x v : Vl} {ex : ExT} {hs : List Hz} {ds : DS} {cs : List Str} {kt : Kit}
@[simp] theorem dM_ap {T : String} {g : FM} : dM T g de d env m = bindR (de env m) fun x m => if tyM T m x = true then bindR (d env m) fun xs m => okR (g x xs m) else none := rfl
@[simp] theorem tyM_str {z : Str} : tyM "str" m (.str z) = true := by
  show decide ("str" = "str") = true
  decide
@[simp] theorem tyM_lst {xs : List Vl} : tyM "list" m (.lst xs) = true := by
  show decide ("list" = "list") = true
  decide
theorem tyM_obj {xs : List Vl} (h : m[i]? = some (.lst xs)) : tyM "list" m (.obj i) = true := by
  unfold tyM
  simp only [h]
  decide
@[simp] theorem dSplit_ap : dSplit de d env m = bindR (de env m) fun x m => if tyM "str" m x = true then bindR (d env m) fun xs m => (match splitH x xs with
  | some ys => some (.ok ys, m)
  | none => none) else none := rfl
theorem splitH_str {a b : Str} (h : (b.length == 0) = false) (h2 : a.length + 2 ≤ sizeLine) : splitH (.str a) [.str b] = some ((Txt.split a b).map Vl.str) := by
  unfold splitH
  simp only [h, h2, decide_true, Bool.not_false, Bool.and_self, if_true]
@[simp] theorem strsL_map : ∀ l : List Str, strsL (l.map Vl.str) = some l
  | [] => rfl
  | x :: l => by
    show (match strsL (l.map Vl.str) with
      | some bs => some (x :: bs)
      | none => none) = _
    rw [strsL_map l]
theorem joinF_strs {a : Str} {l : List Str} {y : Vl} (hy : seqD m y = some (l.map Vl.str)) (h : (l.map (·.length)).sum + l.length * a.length ≤ 16777216) : joinF (.str a) [y] m = some (.str (Txt.join a l), m) := by
  unfold joinF
  simp only [hy, strsL_map, h, if_true]
/-! membership -/
@[simp] theorem flatLs_strs : ∀ l : List Str, flatLs (l.map Vl.str) = some (l.map V.str)
  | [] => rfl
  | x :: l => by
    show (match flatLs (l.map Vl.str) with
      | some vs => some (V.str x :: vs)
      | none => none) = _
    rw [flatLs_strs l]
    rfl
theorem inV_strs {a : Str} : ∀ l : List Str, inV (.str a) (l.map V.str) = l.contains a
  | [] => rfl
  | x :: l => by
    have ih := inV_strs (a := a) l
    unfold inV at ih ⊢
    rw [List.map_cons, List.any_cons, ih, List.contains_cons]
    have : eqV (.str x) (.str a) = (a == x) := by
      show decide (x = a) = (a == x)
      by_cases h : x = a
      · subst h
        simp
      · have h' : (a == x) = false := by
          rw [Bool.eq_false_iff]
          exact fun e => h (eq_of_beq e).symm
        rw [h', decide_eq_false h]
    rw [this]
theorem inA_strs {neg : Bool} {a : Str} {l : List Str} : inA neg (.str a) (.tup (l.map .str)) m = some (.bl (if neg then !l.contains a else l.contains a), m) := by
  unfold inA orF inS seqD
  simp only [flatLs_strs, inV_strs, flatL]
/-! try, raise -/
def tryK (ex : ExT) (hs : List Hz) : Option (Fl × Mem) → Option (Fl × Mem)
  | some (.ex c fs env1, m1) => hdZ ex hs c fs env1 m1
  | r => r
@[simp] theorem dTry_ap : dTry ex ds hs env m = tryK ex hs (ds env m) := rfl
@[simp] theorem tryK_ex : tryK ex hs (some (.ex c fs env, m)) = hdZ ex hs c fs env m := rfl
@[simp] theorem tryK_nx : tryK ex hs (some (.nx env, m)) = some (.nx env, m) := rfl
@[simp] theorem tryK_rt : tryK ex hs (some (.rt v, m)) = some (.rt v, m) := rfl
@[simp] theorem hdZ_nil : hdZ ex [] c fs env m = some (.ex c fs env, m) := rfl
theorem hdZ_no {k : Str} {nm : Option Nat} (h : ex c k = some false) : hdZ ex ((k, nm, ds) :: hs) c fs env m = hdZ ex hs c fs env m := by
  show (match ex c k with
    | none => none
    | some false => hdZ ex hs c fs env m
    | some true => _) = _
  rw [h]
theorem hdZ_as {k : Str} (h : ex c k = some true) : hdZ ex ((k, some i, ds) :: hs) c fs env m = unname i (ds (env.set i (some (.err c fs))) m) := by
  show (match ex c k with
    | none => none
    | some false => _
    | some true => unname i (ds (env.set i (some (.err c fs))) m)) = _
  rw [h]
@[simp] theorem unname_rt : unname i (some (.rt v, m)) = some (.rt v, m) := rfl
@[simp] theorem unname_nx : unname i (some (.nx env, m)) = some (.nx (env.set i none), m) := rfl
def raiseK (env : Ev) : Option (R (Str × List (Str × Vl)) × Mem) → Option (Fl × Mem)
  | some (.ok q, m') => some (.ex q.1 q.2 env, m')
  | some (.ex c fs, m') => some (.ex c fs env, m')
  | none => none
@[simp] theorem dRaise_ap {dm : DM} : dRaise dm env m = raiseK env (dm env m) := rfl
@[simp] theorem raiseK_ok {q : Str × List (Str × Vl)} : raiseK env (some (.ok q, m)) = some (.ex q.1 q.2 env, m) := rfl
@[simp] theorem dMk_ap : dMk c f d env m = bindR (d env m) fun xs m => match xs with
  | [x] => some (.ok (c, [(f, x)]), m)
  | _ => none := rfl
@[simp] theorem dXf_ap : dXf cs f de env m = bindR (de env m) fun x m => match x with
  | .err c fs => if cs.contains c = true then (match fs.lookup f with
    | some v => some (.ok v, m)
    | none => none) else none
  | _ => none := rfl
@[simp] theorem dIsE_ap : dIsE cs kt de du env m = bindR (de env m) fun x m => bindR (du env m) fun u m => match x, clsD u with
  | .err c _, some t => if cs.contains c = true then (match kt (.c c) t with
    | some b => some (.ok (.bl b), m)
    | none => none) else none
  | _, _ => none := rfl
@[simp] theorem addA_str {a b : Str} (h : a.length + b.length ≤ sizeLine) : addA (.str a) (.str b) m = some (.str (a ++ b), m) := by
  unfold addA orF addI addS intF
  simp only [h, if_true]
end
end Z
namespace Z
open PySem PySem.Spec PyProof.Rows L2
/-! ### zip of lists that may be cells -/
def zW (w1 w2 : Wk) : Wk := fun i m => match w1 i m, w2 i m with
  | some (some x), some (some y) => some (some (.tup [x, y]))
  | some none, some _ => some none
  | some (some _), some none => some none
  | _, _ => none
/-- what a walk tells of the list at a -/
def RdW (K : PySem.W.Frag) (a : Addr) (ρ0 : Lay) (H0 : Hp) (w : Wk) : Prop := ∀ (i : Nat) (ρ : Lay) (m : Mem) (H : Hp), Ext ρ0 H0 ρ H → RM K ρ m H → ∀ o, w i m = some o → ∃ vs, SqL K H a vs ∧ match o with
  | some x => ∃ v, vs[i]? = some v ∧ RV K ρ H x v
  | none => vs.length ≤ i
section
variable {K : PySem.W.Frag} {ρ0 : Lay} {H0 : Hp} {xs ys : List Vl} {vs us : List V} {a b : Addr}
theorem rdW_stat (h : ∀ ρ H, Ext ρ0 H0 ρ H → SqL K H a vs) (r : RVs K ρ0 H0 xs vs) : RdW K a ρ0 H0 (statW xs) := fun i ρ m H E M o ho => by
  refine ⟨vs, h ρ H E, ?_⟩
  have ho' : xs[i]? = o := Option.some.inj ho
  cases o with
  | some x =>
    obtain ⟨v, h1, h2⟩ := (r.mono E).get ho'
    exact ⟨v, h1, h2⟩
  | none =>
    rw [← r.length]
    exact List.getElem?_eq_none_iff.mp ho'
theorem rdW_cell {n : Nat} (ha : ρ0.c[n]? = some a) : RdW K a ρ0 H0 (cellW n) := fun i ρ m H E M o ho => by
  have ha' : ρ.c[n]? = some a := by
    obtain ⟨t, ht⟩ := E.pre
    rw [← ht, List.getElem?_append_left (List.getElem?_eq_some_iff.mp ha).1]
    exact ha
  unfold cellW at ho
  split at ho
  · rename_i zs hm
    obtain ⟨vs, h1, h2⟩ := M.at_ _ _ _ hm ha'
    refine ⟨vs, SqL.of h1, ?_⟩
    have ho' : zs[i]? = o := Option.some.inj ho
    cases o with
    | some x =>
      obtain ⟨v, h3, h4⟩ := h2.get ho'
      exact ⟨v, h3, h4⟩
    | none =>
      rw [← h2.length]
      exact List.getElem?_eq_none_iff.mp ho'
  · cases ho
theorem wkOf_ok {ρ : Lay} {m : Mem} {H : Hp} {x : Vl} {v : V} {w : Wk × Nat} (M : RM K ρ m H) (r : RV K ρ H x v) (h : wkOf m x = some w) : ∃ p vs, v = .ref p ∧ SqL K H p vs ∧ RdW K p ρ H w.1 := by
  unfold wkOf at h
  split at h
  · rename_i n
    split at h
    · rename_i zs hz
      cases h
      obtain ⟨q, rfl, hq⟩ := r
      obtain ⟨vs, h1, h2⟩ := M.at_ _ _ _ hz hq
      exact ⟨q, vs, rfl, SqL.of h1, rdW_cell hq⟩
    · cases h
  · split at h
    · rename_i zs hz
      cases h
      obtain ⟨q, vs, rfl, h1, h2⟩ := staD_ok r hz
      exact ⟨q, vs, rfl, h1 ρ H .refl, rdW_stat h1 h2⟩
    · cases h
theorem itW_zip {w1 w2 : Wk} (h1 : RdW K a ρ0 H0 w1) (h2 : RdW K b ρ0 H0 w2) : ItW K (Itz K a b) ρ0 H0 (zW w1 w2) := fun i ρ m H E M => by
  unfold zW
  refine ⟨fun x hx => ?_, fun hx => ?_⟩
  · split at hx
    · rename_i y z e1 e2
      cases hx
      obtain ⟨vs, s1, v, g1, r1⟩ := h1 i ρ m H E M _ e1
      obtain ⟨us, s2, u, g2, r2⟩ := h2 i ρ m H E M _ e2
      refine ⟨⟨vs, us, v, u, s1, s2, g1, g2⟩, fun w H' q => ?_⟩
      obtain ⟨T, v', u', rfl, hT, rfl, q5, q6⟩ := q
      have e3 := q5 vs s1
      have e4 := q6 us s2
      rw [g1] at e3
      rw [g2] at e4
      cases e3
      cases e4
      exact ⟨M.laid hT, ext_new hT, new_tup M hT ⟨_, _, rfl, r1, _, _, rfl, r2, rfl⟩⟩
    · cases hx
    · cases hx
    · cases hx
  · split at hx
    · cases hx
    · rename_i o e1 e2
      obtain ⟨vs, s1, g1⟩ := h1 i ρ m H E M _ e1
      obtain ⟨us, s2, _⟩ := h2 i ρ m H E M _ e2
      exact ⟨vs, us, s1, s2, .inl g1⟩
    · rename_i y e1 e2
      obtain ⟨vs, s1, _⟩ := h1 i ρ m H E M _ e1
      obtain ⟨us, s2, g2⟩ := h2 i ρ m H E M _ e2
      exact ⟨vs, us, s1, s2, .inr g2⟩
    · cases hx
theorem rdW_A {W : WX} {d : DA} {f : List Vl → Mem → Option (R (Wk × Nat) × Mem)} {σ : L2.St} {H : Hp} {R : It → Hp → Prop} {Q : List V → Hp → Prop} (h : rdW K W (fun env m => bindR (d env m) f) σ H R)
    (k : ∀ x m1 ρ env w v H1, S K ρ env m1 σ H1 → RVs K ρ H1 x v → f x m1 = some (.ok w, m1) → (∀ J, ItW K J ρ H1 w.1 → R J H1) → Q v H1) (hf : ∀ x m r m', f x m = some (r, m') → (∃ w, r = .ok w) ∧ m' = m) : rdA K W d σ H Q := by
  obtain ⟨ρ, env, m, r, m', s, e, p⟩ := h
  have e' : bindR (d env m) f = some (r, m') := e
  unfold bindR at e'
  split at e'
  · cases e'
  · rename_i x m1 h0
    obtain ⟨⟨w, rfl⟩, rfl⟩ := hf x m1 r m' e'
    exact goA s h0 fun ρ' H' v s' E rv => k x _ ρ' env w v H' s' rv e' fun J hJ => p ρ' H' s'.mem E J hJ
  · rename_i c fs m1 h0
    cases e'
    exact exA s h0 fun ρ' H' dd s' E r => p ρ' H' s'.mem E dd r
end
def wZp (d : DA) : DW := fun env m => bindR (d env m) fun xs m => match xs with
  | [x, y] => (match wkOf m x, wkOf m y with
    | some w1, some w2 => some (.ok (zW w1.1 w2.1, min w1.2 w2.2), m)
    | _, _ => none)
  | _ => none
section
variable {X : Cx} {e : Expr} {pos p tpos : Pos} {d : DA}
theorem siw_zip {e2 : Expr} {elts : List Expr} {kk : Nat} (hg : Gl X "zip") (hm : X.mg "zip" = none) (ha : SA X [e, e2] d)
    (hs : starEach [e, e2] X.env = (false, eval e X.env) :: starEach [e2] X.env := by rfl) (hpl : (backTo pos (starEach [e2] X.env)).any (·.1) = false := by rfl) :
    SIW X (.Tuple elts kk tpos) (.Call (.Name "zip" p) [e, e2] [] pos) (wZp d) := ⟨fun W tk => impPI (pi_zip hg hm (ha.run W tk) hs hpl) fun σ H R h =>
  rdW_A (Q := fun vs H1 => ∃ a b xs ys, vs = [.ref a, .ref b] ∧ SqL X.K H1 a xs ∧ SqL X.K H1 b ys ∧ R (Itz X.K a b) H1) h (fun x m1 ρ env xs v H1 s r e k => by
    split at e
    · rename_i y z
      split at e
      · rename_i w1 w2 h1 h2
        cases e
        obtain ⟨w, vs, rfl, r1, w2, vs2, rfl, r2, r3⟩ := r
        subst r3
        obtain ⟨q, vs, rfl, h3, h4⟩ := wkOf_ok s.mem r1 h1
        obtain ⟨q2, vs2, rfl, h5, h6⟩ := wkOf_ok s.mem r2 h2
        exact ⟨q, q2, vs, vs2, rfl, h3, h5, k _ (itW_zip h4 h6)⟩
      · cases e
    · cases e) fun x m r m' e => by
    split at e
    · split at e
      · cases e
        exact ⟨⟨_, rfl⟩, rfl⟩
      · cases e
    · cases e⟩
end
@[simp] theorem wZp_ap {d : DA} {env : Ev} {m : Mem} : wZp d env m = bindR (d env m) fun xs m => match xs with
  | [x, y] => (match wkOf m x, wkOf m y with
    | some w1, some w2 => some (.ok (zW w1.1 w2.1, min w1.2 w2.2), m)
    | _, _ => none)
  | _ => none := rfl
end Z
namespace Z
open PySem PySem.Spec PyProof.Rows L2
/-! ### staticmethods, ~x of an own class -/
/-- the def of a staticmethod -/
def smA (K : PySem.W.Frag) (c m : Str) : Addr := match PySem.W.recIn K (He.ma K (He.ga K c) m) "staticmethod" with
  | some (.ref g :: _) => g
  | _ => 0
structure SMd (K : PySem.W.Frag) (c m : Str) : Prop where
  rd : ClX.CRead K (He.ga K c) (.type "type")
  at_ : PySem.W.findCls K (.ref (He.ga K c)) (.type "type") m = some (.get (.builtin "staticmethod.__get__") (.ref (He.ma K (He.ga K c) m)) .none (.ref (He.ga K c)))
  rc : ∃ rest, PySem.W.recIn K (He.ma K (He.ga K c) m) "staticmethod" = some (.ref (smA K c m) :: rest)
  kp : PySem.W.keepIn K (.ref (smA K c m)) = true
def isSmF (r : Option PySem.W.CFound) (p C : Addr) : Bool := match r with
  | some (.get (.builtin b) (.ref p') .none (.ref C')) => decide (b = "staticmethod.__get__") && (decide (p' = p) && decide (C' = C))
  | _ => false
theorem isSmF_ok {r : Option PySem.W.CFound} {p C : Addr} (h : isSmF r p C = true) : r = some (.get (.builtin "staticmethod.__get__") (.ref p) .none (.ref C)) := by
  unfold isSmF at h
  split at h
  · simp only [Bool.and_eq_true, decide_eq_true_eq] at h
    rw [h.1, h.2.1, h.2.2]
  · cases h
def ckSM (c m : Str) : Ck := fun K => PySem.W.readsIn K (He.ga K c) (.type "type") && (He.eqO (PySem.W.specialIn K (.ref (He.ga K c)) "__getattribute__") (some (some (.builtin "type.__getattribute__"))) &&
  (isSmF (PySem.W.findCls K (.ref (He.ga K c)) (.type "type") m) (He.ma K (He.ga K c) m) (He.ga K c) && ((match PySem.W.recIn K (He.ma K (He.ga K c) m) "staticmethod" with
    | some (.ref _ :: _) => true
    | _ => false) && PySem.W.keepIn K (.ref (smA K c m)))))
theorem ckSM_ok {K : PySem.W.Frag} {c m : Str} (h : ckSM c m K = true) : SMd K c m := by
  unfold ckSM at h
  simp only [Bool.and_eq_true] at h
  obtain ⟨h1, h2, h3, h4, h5⟩ := h
  refine ⟨⟨h1, He.eqO_ok h2⟩, isSmF_ok h3, ?_, h5⟩
  split at h4
  · rename_i g rest q
    refine ⟨rest, ?_⟩
    unfold smA
    rw [q]
  · cases h4
section
variable {X : Cx} {o e : Expr} {es : List Expr} {c mn : Str} {pos apos p : Pos} {de : DE} {d dk : DA} {k n : Nat} {f : Addr} {ks : List Str} {kws : List Keyword} {gz : List Vl → List Vl → List Vl} {g : FD} {W : WX} {pins : List (Addr × Obj)} {σ : L2.St} {H : Hp} {s : Shared}
theorem getsm_ok {pl : Sem Bool} {A : Around} {E : Value → Shared → Prop} {Q : Value × List Value → Shared → Prop} (I : Inv X pins σ H s) (h : SMd X.K c mn) (hQ : ∀ s', Inv X pins σ H s' → Q (.ref (smA X.K c mn), []) s') : wpAny (model X.prog X.w) A (getMethod (.ref (He.ga X.K c)) mn pl) Q E s := by
  obtain ⟨rest, hp⟩ := h.rc
  refine PySem.W.method_cls I.kIn h.rd.ga (PySem.W.cls_bind I.kIn h.rd.rd h.at_ ?_)
  refine wpAny_call (PySem.W.sm_get (s := { s with toks := s.toks + 1 }) I.kIn hp (PySem.W.handed_on rfl ?_))
  exact hQ _ (I.tok _)
def dSMeth (c : Str) (n j : Nat) (gz : List Vl → List Vl → List Vl) (g : FD) (de : DE) (d dk : DA) : DE := fun env m => bindR (de env m) fun x m => match x with
  | .glo c' => if c' = c then bindR (d env m) fun xs m => bindR (dk env m) fun ys m => if xs.length = n ∧ ys.length = j then g (gz xs ys) m else none else none
  | _ => none
theorem se_smeth {pl : Sem Bool} (he : SE X o de) (h : SMd X.K c mn) (F : Fz X.prog X.w X.K X.mg X.base k (smA X.K c mn) n [] gz g) (hr : Room k X.A) (ha : SA X (e :: es) d)
    (hst : starEach (e :: es) X.env = (false, eval e X.env) :: starEach es X.env := by rfl) (hpl : (backTo pos (starEach es X.env)).any (·.1) = false := by rfl)
    (ht : eval (.Call (.Attribute o mn apos) (e :: es) [] pos) X.env = (do
      let ov ← eval o X.env
      standAt apos.atName
      let (f, first) ← holding [ov] (getMethod ov mn pl)
      callWith pos f first (backTo pos (starEach (e :: es) X.env)) (backToKw pos (keywordEach [] X.env))) := by rfl) :
    SE X (.Call (.Attribute o mn apos) (e :: es) [] pos) (dSMeth c n 0 gz g de d dNone) := ⟨fun W tk => ⟨fun pins s σ H Q I h0 => by
  obtain ⟨ρ, env, m, z, m', st, ee, pp⟩ := h0
  have h' : rdE X.K W de σ H (fun v H1 => v = .ref (He.ga X.K c) ∧ rdA X.K W d σ H1 fun vs H2 => ∃ ρ1 m1 xs, RM X.K ρ1 m1 H2 ∧ RVs X.K ρ1 H2 xs vs ∧ xs.length = n ∧ g (gz xs []) m1 = some (z, m') ∧ Po X.K ρ1 H2 (RV X.K) (fun c dd H' => W c dd σ H') Q z m') :=
    bindE st ee pp fun x m1 ρ1 H1 v s1 E1 r1 e1 p1 => by
      split at e1
      · rename_i c'
        split at e1
        · rename_i hc
          subst hc
          refine ⟨r1, bindA s1 e1 p1 fun xs m2 ρ2 H2 vs s2 E2 r2 e2 p2 => ?_⟩
          unfold dNone bindR at e2
          simp only at e2
          split at e2
          · rename_i hn
            exact ⟨ρ2, m2, xs, s2.mem, r2, hn.1, e2, p2⟩
          · cases e2
        · cases e1
      · cases e1
  refine PySem.W.methodCall_KW (pl := pl) (thn ((he.run W tk).run pins s σ H _ I h') fun u s1 ⟨x, H1, I1, rx, ex, q⟩ => ?_) ht
  subst ex
  obtain rfl : u = Value.ref (He.ga X.K c) := rx
  refine getsm_ok I1 h fun s2 I2 => ?_
  refine PySem.W.callWith_K (first := []) (h₀ := X.base) I.ok.mod.kin h.kp (thn ((ha.run W tk).run pos pins s2 σ H1 _ I2 q) fun us s3 ⟨vs, H2, I3, r, ρ1, m1, xs, M1, rx, hn, e1, p1⟩ => ⟨I3.kIn, ?_⟩) hst hpl
  exact F.run hr tk (us := us) (vs := vs) (ws := []) I3 r .nil M1 rx (show RVs X.K ρ1 H2 [] [] from rfl) hn rfl e1 p1⟩⟩
theorem se_smeth0 {pl : Sem Bool} (he : SE X o de) (h : SMd X.K c mn) (F : Fz X.prog X.w X.K X.mg X.base k (smA X.K c mn) 0 [] gz g) (hr : Room k X.A)
    (ht : eval (.Call (.Attribute o mn apos) [] [] pos) X.env = (do
      let ov ← eval o X.env
      standAt apos.atName
      let (f, first) ← holding [ov] (getMethod ov mn pl)
      callWith pos f first (backTo pos (starEach [] X.env)) (backToKw pos (keywordEach [] X.env))) := by rfl) :
    SE X (.Call (.Attribute o mn apos) [] [] pos) (dSMeth c 0 0 gz g de dNone dNone) := ⟨fun W tk => ⟨fun pins s σ H Q I h0 => by
  obtain ⟨ρ, env, m, z, m', st, ee, pp⟩ := h0
  have h' : rdE X.K W de σ H (fun v H1 => v = .ref (He.ga X.K c) ∧ ∃ ρ1 m1, RM X.K ρ1 m1 H1 ∧ g (gz [] []) m1 = some (z, m') ∧ Po X.K ρ1 H1 (RV X.K) (fun c dd H' => W c dd σ H') Q z m') :=
    bindE st ee pp fun x m1 ρ1 H1 v s1 E1 r1 e1 p1 => by
      split at e1
      · rename_i c'
        split at e1
        · rename_i hc
          subst hc
          unfold dNone bindR at e1
          simp only [List.length_nil, and_self, if_true] at e1
          exact ⟨r1, ρ1, m1, s1.mem, e1, p1⟩
        · cases e1
      · cases e1
  refine PySem.W.methodCall_KW (pl := pl) (thn ((he.run W tk).run pins s σ H _ I h') fun u s1 ⟨x, H1, I1, rx, ex, ρ1, m1, M1, e1, p1⟩ => ?_) ht
  subst ex
  obtain rfl : u = Value.ref (He.ga X.K c) := rx
  refine getsm_ok I1 h fun s2 I2 => ?_
  exact PySem.W.callWith_K0 (first := []) I2.kIn h.kp (F.run hr tk (us := []) (vs := []) (ws := []) I2 .nil .nil M1 (show RVs X.K ρ1 H1 [] [] from rfl) (show RVs X.K ρ1 H1 [] [] from rfl) rfl rfl e1 p1)⟩⟩
/-- ~x by an own __invert__ -/
theorem own_inv {M : Model} {A : Around} {E : Value → Shared → Prop} {Q : Value → Shared → Prop} {K : PySem.W.Frag} {x C : Addr} {ox : Obj} {od : Option Obj} (hK : K.In s.heap) (J : PySem.W.InstAt s.heap x ox C od) (hs : PySem.W.findIn K (.ref C) "__invert__" = some (some (.ref f))) (hf : PySem.W.isFn K (.ref f) = true)
    (h : wpAny M A (call (.ref f) [.ref x]) Q E s) : wpAny M A (unaryOp .Invert (.ref x)) Q E s := by
  unfold unaryOp
  refine wpAny_holding (wpAny_bind (PySem.W.special_fn hK J hs (beq_iff_eq.mp hf) (wpAny_mono h (fun v s' z => ?_) fun _ _ z => z)))
  exact wpAny_pure z
def dInv (c : Str) (gz : List Vl → List Vl → List Vl) (g : FD) (de : DE) : DE := fun env m => bindR (de env m) fun x m => match insD m x with
  | some (c', _) => if c' = c then g (gz [x] []) m else none
  | none => none
theorem se_inv {ts : List TD} (he : SE X e de) (O : OwnM X.K c "__invert__" f ts) (F : Fz X.prog X.w X.K X.mg X.base k f 1 [] gz g) (hr : Room k X.A) : SE X (.UnaryOp .Invert e pos) (dInv c gz g de) := ⟨fun W tk => ⟨fun pins s σ H Q I h0 => by
  obtain ⟨ρ, env, m, z, m', st, ee, pp⟩ := h0
  have h' : rdE X.K W de σ H (fun v H1 => ∃ a dx gs, v = .ref a ∧ H1 a = some (.ins (He.ga X.K c) dx gs) ∧ ∃ ρ1 m1 xs, RM X.K ρ1 m1 H1 ∧ RVs X.K ρ1 H1 xs [.ref a] ∧ xs.length = 1 ∧ g (gz xs []) m1 = some (z, m') ∧ Po X.K ρ1 H1 (RV X.K) (fun c dd H' => W c dd σ H') Q z m') :=
    bindE st ee pp fun x m1 ρ1 H1 v s1 E1 r1 e1 p1 => by
      split at e1
      · rename_i c' fs hi
        split at e1
        · rename_i hc
          subst hc
          obtain ⟨a, dx, gs, rfl, h1, h2⟩ := insD_ok s1.mem r1 hi
          exact ⟨a, dx, gs, rfl, h1, ρ1, m1, [x], s1.mem, ⟨_, _, rfl, r1, rfl⟩, rfl, e1, p1⟩
        · cases e1
      · cases e1
  refine UnaryOp_ (thn ((he.run W tk).run pins s σ H _ I h') fun u s1 ⟨x, H1, I1, rx, a, dx, gs, ex, ea, ρ1, m1, xs, M1, rx1, hn, e1, p1⟩ => ?_)
  subst ex
  obtain rfl : u = Value.ref a := rx
  obtain ⟨mA, Ob, _⟩ := ins_get I1.hok ea
  obtain ⟨od, J, _⟩ := Ob.look
  exact own_inv I1.kIn J O.at_ O.fn (F.run hr tk (us := [.ref a]) (vs := [.ref a]) (ws := []) I1 (.cons rfl .nil) .nil M1 rx1 (show RVs X.K ρ1 H1 [] [] from rfl) hn rfl e1 p1)⟩⟩
end
@[simp] theorem dSMeth_ap {c : Str} {n j : Nat} {gz : List Vl → List Vl → List Vl} {g : FD} {de : DE} {d dk : DA} {env : Ev} {m : Mem} : dSMeth c n j gz g de d dk env m = bindR (de env m) fun x m => match x with
  | .glo c' => if c' = c then bindR (d env m) fun xs m => bindR (dk env m) fun ys m => if xs.length = n ∧ ys.length = j then g (gz xs ys) m else none else none
  | _ => none := rfl
@[simp] theorem dInv_ap {c : Str} {gz : List Vl → List Vl → List Vl} {g : FD} {de : DE} {env : Ev} {m : Mem} : dInv c gz g de env m = bindR (de env m) fun x m => match insD m x with
  | some (c', _) => if c' = c then g (gz [x] []) m else none
  | none => none := rfl
end Z
namespace Z
open PySem PySem.Spec PyProof.Rows L2
/-! ### a text n times, str of an int, tests of chains -/
def mulSC (z : Str) (i : Int) : Bool := decide (0 ≤ i) && (decide (i ≤ 1000) && decide (z.length ≤ 1000))
theorem mulOk_of {z : Str} {i : Int} (h : mulSC z i = true) : MulOk z i := by
  unfold mulSC at h
  rw [Bool.and_eq_true, Bool.and_eq_true, decide_eq_true_eq, decide_eq_true_eq, decide_eq_true_eq] at h
  obtain ⟨h0, h1, h2⟩ := h
  refine ⟨?_, fun hn _ => ?_, fun hn _ => ?_⟩
  · rw [decide_eq_false (by omega), decide_eq_false (by omega)]
    rfl
  · have hp : 0 < i := by omega
    have : (1000 : Int) ≤ (2 ^ 63 - 1) / i := (Int.le_ediv_iff_mul_le hp).mpr (by omega)
    omega
  · have hm : z.length * i.toNat ≤ 1000 * 1000 := Nat.mul_le_mul h2 (by omega)
    unfold Builtin.Str.tooLong
    exact decide_eq_false (Nat.not_lt.mpr (Nat.le_trans hm (by decide)))
def mulS : F2 := fun x y m => match x, y with
  | .str z, .int i => if mulSC z i = true then some (.str (Txt.mul z i), m) else none
  | _, _ => none
section
variable {X : Cx} {a b c e : Expr} {es : List Expr} {pos p : Pos} {da db dc : DE} {d : DA}
theorem op_mulS : OpR X (binaryOp .Mult) (fun x y H Q => ∃ z i, x = .str z ∧ y = .int i ∧ MulOk z i ∧ Q (.str (Txt.mul z i)) H) := by
  intro pins s σ H x y v u Q I rx ry h
  obtain ⟨z, i, rfl, rfl, ok, q⟩ := h
  obtain ⟨t, rfl⟩ := rx
  obtain ⟨t', rfl⟩ := ry
  exact PySem.SB.mul ok fun t2 k => ⟨.str _, H, I.tok k, ⟨t2, rfl⟩, q⟩
theorem sf_mulS {K : PySem.W.Frag} : SF2 K mulS (fun x y H Q => ∃ z i, x = .str z ∧ y = .int i ∧ MulOk z i ∧ Q (.str (Txt.mul z i)) H) := fun ρ m H x y v u z m' Q M a b e k => by
  unfold mulS at e
  split at e
  · rename_i w i
    split at e
    · rename_i hc
      cases e
      exact ⟨w, i, a, b, mulOk_of hc, k ρ H _ M .refl rfl⟩
    · cases e
  · cases e
theorem se_mulS (ha : SE X a da) (hb : SE X b db) : SE X (.BinOp a .Mult b pos) (d2 mulS da db) := se_2 op_mulS sf_mulS ha hb
theorem mulS_str {z : Str} {i : Int} {m : Mem} (h : mulSC z i = true) : mulS (.str z) (.int i) m = some (.str (Txt.mul z i), m) := by
  unfold mulS
  simp only [h, if_true]
def strIF : FB := fun xs m => match xs with
  | [.int i] => if i.natAbs.log2 < 1920 then some (.str (toString i), m) else none
  | _ => none
theorem scf_strI {K : PySem.W.Frag} : SCF K strIF (fun xs H Q => ∃ i, xs = [.int i] ∧ i.natAbs.log2 < 1920 ∧ Q (.str (toString i)) H) := fun ρ m H xs vs z m' Q M a e k => by
  unfold strIF at e
  split at e
  · rename_i i
    split at e
    · rename_i hc
      cases e
      obtain ⟨v, s, rfl, h1, h2⟩ := a
      subst h2
      exact ⟨i, by rw [show v = V.int i from h1], hc, k ρ H _ M .refl rfl⟩
    · cases e
  · cases e
theorem se_strI (hg : Gl X "str") (hm : X.mg "str" = none) (ha : SA X (e :: es) d) (he : starEach (e :: es) X.env = (false, eval e X.env) :: starEach es X.env := by rfl) (hpl : (backTo pos (starEach es X.env)).any (·.1) = false := by rfl) :
    SE X (.Call (.Name "str" p) (e :: es) [] pos) (dB strIF d) := se_callTy call_str_int scf_strI hg hm (by decide +kernel) ha (by decide) (by decide) he hpl
def tChn (f g : F2) (da db dc : DE) : DT := fun env m => bindR (da env m) fun x m => bindR (db env m) fun y m => match f x y m with
  | some (.bl true, m) => bindR (dc env m) fun z m => (match g y z m with
    | some (.bl k, m) => some (.ok k, m)
    | _ => none)
  | some (.bl false, m) => some (.ok false, m)
  | _ => none
theorem st_chain {op op' : CmpOp} {f g : F2} {r r' : R2} (ho : OpR X (compareOp op) r) (ho' : OpR X (compareOp op') r') (hf : SF2 X.K f r) (hg : SF2 X.K g r') (ha : SE X a da) (hb : SE X b db) (hc : SE X c dc)
    (hm : lastMarks [op, op'] [b, c] = false := by with_unfolding_all rfl) : ST X (.Compare a [op, op'] [b, c] pos) (tChn f g da db dc) := ⟨fun W tk =>
  impPT (pt_chain ho ho' (ha.run W tk) (hb.run W tk) (hc.run W tk) hm) fun σ H Q ⟨ρ, env, m, z, m', s, e, p⟩ =>
    bindE s e p fun x m1 ρ1 H1 v s1 E1 r1 e1 p1 => bindE s1 e1 p1 fun y m2 ρ2 H2 u s2 E2 r2 e2 p2 => by
      split at e2
      · rename_i m3 h1
        refine hf ρ2 m2 H2 x y v u _ m3 _ s2.mem (r1.mono E2) r2 h1 fun ρ' H' u' M E r => ⟨true, r, ?_⟩
        rw [if_pos rfl]
        exact bindE (s2.to E M) e2 (p2.mono E) fun z m4 ρ4 H4 v4 s4 E4 r4 e4 p4 => by
          split at e4
          · rename_i k m5 h5
            cases e4
            exact hg ρ4 m4 H4 y z u v4 _ m' _ s4.mem (r2.mono (E.trans E4)) r4 h5 fun ρ' H' u' M E r => ⟨k, r, p4 ρ' H' M E k rfl⟩
          · cases e4
      · rename_i m3 h1
        cases e2
        refine hf ρ2 m2 H2 x y v u _ _ _ s2.mem (r1.mono E2) r2 h1 fun ρ' H' u' M E r => ⟨false, r, ?_⟩
        rw [if_neg (by decide)]
        exact ⟨false, rfl, p2 ρ' H' M E false rfl⟩
      · cases e2⟩
theorem se_ch2 {op op' : CmpOp} {f g : F2} {r r' : R2} (ho : OpR X (compareOp op) r) (ho' : OpR X (compareOp op') r') (hf : SF2 X.K f r) (hg : SF2 X.K g r') (ha : SE X a da) (hb : SE X b db) (hc : SE X c dc)
    (hm : lastMarks [op, op'] [b, c] = false := by with_unfolding_all rfl) : SE X (.Compare a [op, op'] [b, c] pos) (dChain f g da db dc) := se_chain ho ho' hf hg ha hb hc hm
end
@[simp] theorem tChn_ap {f g : F2} {da db dc : DE} {env : Ev} {m : Mem} : tChn f g da db dc env m = bindR (da env m) fun x m => bindR (db env m) fun y m => match f x y m with
  | some (.bl true, m) => bindR (dc env m) fun z m => (match g y z m with
    | some (.bl k, m) => some (.ok k, m)
    | _ => none)
  | some (.bl false, m) => some (.ok false, m)
  | _ => none := rfl
@[simp] theorem dChain_ap {f g : F2} {da db dc : DE} {env : Ev} {m : Mem} : dChain f g da db dc env m = bindR (da env m) fun x m => bindR (db env m) fun y m => match f x y m with
  | some (.bl true, m) => bindR (dc env m) fun z m => okR (g y z m)
  | some (.bl false, m) => some (.ok (.bl false), m)
  | _ => none := rfl
end Z
namespace Z
open PySem PySem.Spec PyProof.Rows L2
/-! ### x & y, x | y, .. of two instances of one own class -/
structure BinC (K : PySem.W.Frag) (c : Str) (op : Operator) (f : Addr) : Prop where
  sf : PySem.W.selfFirst K (He.ga K c) = true
  at_ : PySem.W.findIn K (.ref (He.ga K c)) (PySem.dunder op.info.2) = some (some (.ref f))
  fn : PySem.W.isFn K (.ref f) = true
def ckBin (c mn : Str) (op : Operator) : Ck := fun K => PySem.W.selfFirst K (He.ga K c) && (decide (PySem.dunder op.info.2 = mn) && (He.eqO (PySem.W.findIn K (.ref (He.ga K c)) mn) (some (some (.ref (He.ma K (He.ga K c) mn)))) && PySem.W.isFn K (.ref (He.ma K (He.ga K c) mn))))
theorem ckBin_ok {K : PySem.W.Frag} {c mn : Str} {op : Operator} (h : ckBin c mn op K = true) : BinC K c op (He.ma K (He.ga K c) mn) := by
  unfold ckBin at h
  rw [Bool.and_eq_true, Bool.and_eq_true, Bool.and_eq_true, decide_eq_true_eq] at h
  obtain ⟨h1, h2, h3, h4⟩ := h
  exact ⟨h1, by rw [h2]; exact He.eqO_ok h3, h4⟩
section
variable {X : Cx} {a b : Expr} {c : Str} {pos : Pos} {da db : DE} {k : Nat} {f : Addr} {gz : List Vl → List Vl → List Vl} {g : FD} {op : Operator}
def dBinC (c : Str) (gz : List Vl → List Vl → List Vl) (g : FD) (da db : DE) : DE := fun env m => bindR (da env m) fun x m => bindR (db env m) fun y m => match insD m x, insD m y with
  | some (c1, _), some (c2, _) => if (decide (c1 = c) && decide (c2 = c)) = true then g (gz [x, y] []) m else none
  | _, _ => none
theorem cmpBack_of {pins : List (Addr × Obj)} {σ : L2.St} {Q : VK} {w : Value} {s' : Shared} (h : EP X pins σ Q w s') : PySem.W.CmpBack (EP X pins σ Q) w s' := by
  cases w with
  | notImplemented =>
    obtain ⟨v, H', _, rv, _⟩ := h
    cases v <;> first | (obtain ⟨_, hh⟩ := rv; cases hh) | cases rv
  | _ => exact h
theorem se_binC (B : BinC X.K c op f) (F : Fz X.prog X.w X.K X.mg X.base k f 2 [] gz g) (hr : Room k X.A) (ha : SE X a da) (hb : SE X b db) : SE X (.BinOp a op b pos) (dBinC c gz g da db) := ⟨fun W tk => ⟨fun pins s σ H Q I h => by
  obtain ⟨ρ, env, m, z, m', st, ee, pp⟩ := h
  refine wpAny_BinOp ?_
  have h' : rdE X.K W da σ H (fun v H1 => rdE X.K W db σ H1 fun u H2 => ∃ q dx gs q2 dx2 gs2 ρ' m1 xs, v = .ref q ∧ u = .ref q2 ∧ H2 q = some (.ins (He.ga X.K c) dx gs) ∧ H2 q2 = some (.ins (He.ga X.K c) dx2 gs2) ∧ RM X.K ρ' m1 H2 ∧ RVs X.K ρ' H2 xs [.ref q, .ref q2] ∧ xs.length = 2 ∧ g (gz xs []) m1 = some (z, m') ∧ Po X.K ρ' H2 (RV X.K) (fun c dd H' => W c dd σ H') Q z m') :=
    bindE st ee pp fun x m1 ρ1 H1 v s1 E1 r1 e1 p1 => bindE s1 e1 p1 fun y m2 ρ2 H2 u s2 E2 r2 e2 p2 => by
      split at e2
      · rename_i c1 fs c2 fs2 hi hj
        split at e2
        · rename_i hc
          rw [Bool.and_eq_true, decide_eq_true_eq, decide_eq_true_eq] at hc
          obtain ⟨rfl, rfl⟩ := hc
          obtain ⟨q, dx, gs, rfl, h3, h4⟩ := insD_ok s2.mem (r1.mono E2) hi
          obtain ⟨q2, dx2, gs2, rfl, h5, h6⟩ := insD_ok s2.mem r2 hj
          exact ⟨q, dx, gs, q2, dx2, gs2, ρ2, m2, [x, y], rfl, rfl, h3, h5, s2.mem, ⟨_, _, rfl, r1.mono E2, _, _, rfl, r2, rfl⟩, rfl, e2, p2⟩
        · cases e2
      · cases e2
  refine thn ((ha.run W tk).run pins s σ H _ I h') fun v s1 ⟨x, H1, I1, rx, q1⟩ => ?_
  refine thn ((hb.run W tk).run pins s1 σ H1 _ I1 q1) fun u s2 ⟨y, H2, I2, ry, q, dx, gs, q2, dx2, gs2, ρ2, m2, xs, ex, ey, hq, hq2, M2, rxs, hn, eg, p2⟩ => ?_
  subst ex ey
  obtain rfl : v = Value.ref q := rx
  obtain rfl : u = Value.ref q2 := ry
  obtain ⟨mA, Oa, _⟩ := ins_get I2.hok hq
  obtain ⟨od, J, _⟩ := Oa.look
  obtain ⟨mB, Ob, _⟩ := ins_get I2.hok hq2
  obtain ⟨od2, J2, _⟩ := Ob.look
  obtain ⟨m0, hF⟩ := I2.fr
  refine PySem.W.binop_K hF I2.ok.mod.kin J J2.type B.sf B.at_ B.fn ?_
  exact thn (F.run hr tk (us := [.ref q, .ref q2]) (vs := [.ref q, .ref q2]) (ws := []) I2 (.cons rfl (.cons rfl .nil)) .nil M2 rxs (show RVs X.K ρ2 H2 [] [] from rfl) hn rfl eg p2) fun w s' z => cmpBack_of z⟩⟩
end
/-- a reading that is nowhere some promises nothing -/
theorem fnOk_none {P : Program} {w : World} {K : PySem.W.Frag} {mg : Str → Option Value} {base : Heap} {CX : CXT} {k n : Nat} {f : Addr} {fd : FuncData} {ps : List Str} : Z.FnOk P w K mg base CX k f fd ps (spZ K n (fun _ _ => none)) := by
  have no : ∀ (vs : List V) (H : Hp) (Q : VK) (E : XK), spZ K n (fun _ _ => none) vs H Q E → False := fun vs H Q E h => by
    obtain ⟨_, _, _, _, _, _, _, _, e, _⟩ := h
    cases e
  exact ⟨fun vs H Q E h => (no vs H Q E h).elim, fun A outer s H args us vs Q E _ _ _ _ h => (no vs H Q E h).elim⟩
/-! a, b, c = x, y, z -/
def dPar3 (i j l : Nat) (d : DA) : DS := fun env m => bindS (d env m) env fun xs m => match xs with
  | [x, y, z] => some (.nx (((env.set i (some x)).set j (some y)).set l (some z)), m)
  | _ => none
theorem ss_par3 {X : Cx} {da : DA} {pos : Pos} {i j l : Nat} {x y z : Str} {a b c : Expr} {px py pz pt : Pos} {kt k2 : Nat} {pt2 : Pos} (hc : X.calm = true) (hN : X.N.Nodup) (hi : X.N[i]? = some x) (hj : X.N[j]? = some y) (hl : X.N[l]? = some z) (hij : i ≠ j) (hil : i ≠ l) (hjl : j ≠ l)
    (hx : X.env.scope.names.lookup x = some .local) (hy : X.env.scope.names.lookup y = some .local) (hz : X.env.scope.names.lookup z = some .local) (ha : SA X [a, b, c] da)
    (hw : swappedStores [.Tuple [.Name x px, .Name y py, .Name z pz] kt pt] (.Tuple [a, b, c] k2 pt2) X.env = pure (some [x, y, z]))
    (hs : swapsWithSole [.Tuple [.Name x px, .Name y py, .Name z pz] kt pt] (.Tuple [a, b, c] k2 pt2) pos.line X.env = pure false := by rfl) :
    SS X (.Assign [.Tuple [.Name x px, .Name y py, .Name z pz] kt pt] (.Tuple [a, b, c] k2 pt2) pos) (dPar3 i j l da) := ⟨fun W tk =>
  impPS (ps_par3 hc hN hi hj hl hij hil hjl hx hy hz (ha.run W tk) hw hs) fun D σ H ⟨ρ, env, m, f, m', s, e, p⟩ => sbA s e p fun xs m1 ρ1 H1 vs s1 E1 r1 e1 p1 => by
    split at e1
    · rename_i x y z
      cases e1
      obtain ⟨v, vs, rfl, r2, w, ws, rfl, r3, u, us, rfl, r4, r5⟩ := r1
      subst r5
      exact ⟨v, w, u, rfl, p1 ρ1 H1 s1.mem .refl _ (((s1.env.set r2).set r3).set r4)⟩
    · cases e1⟩
end Z
namespace Z
open PySem PySem.Spec PyProof.Rows L2
/-! ### x & y, x | y, .. of an instance of an own class and of anything whose type is told -/
section
open PySem.W
variable {prog : Program} {w : World} {A : Around} {E : Value → Shared → Prop} {s : Shared} {K : Frag} {x C L f : Addr} {h₀ : Heap} {m : Str → Option Value} {ox : Obj} {od : Option Obj} {T : String}
theorem bin_typed {op : Operator} {b : Value} {fo ro : Option Value} {Q : Value → Shared → Prop} (fr : Fr h₀ L s.heap m) (kin : K.In h₀) (inst : InstAt s.heap x ox C od) (tb : Looks (model prog w) s.heap (typeOf b) (.type T)) (sf : selfFirst K C = true)
    (at_ : findIn K (.ref C) (PySem.dunder op.info.2) = some (some (.ref f))) (fn : isFn K (.ref f) = true) (rn : findIn K (.ref C) (dunderR op.info.2) = some none)
    (e1 : findIn K (.type T) (PySem.dunder op.info.2) = some fo) (e2 : findIn K (.type T) (dunderR op.info.2) = some ro) (ns : subIn K (.type T) (.ref C) = some false)
    (k : wpAny (model prog w) A (call (.ref f) [.ref x, b]) (PySem.W.CmpBack Q) E s) : wpAny (model prog w) A (binaryOp op (.ref x) b) Q E s := by
  have kk := kin.keeps fr.keep
  obtain ⟨cd, r, hcd, hm⟩ := ksp_first sf
  generalize hi : op.info = inf at at_ rn e1 e2
  obtain ⟨sym, nm⟩ := inf
  have one := ksp_try kk inst at_ fn k
  obtain ⟨hh, g, d, tt, os⟩ := s
  have p1 : Looks (model prog w) hh (typeOf (.ref x)) (.ref C) := inst.type
  have p2 : Looks (model prog w) hh (typeOf b) (.type T) := tb
  have p3 : Looks (model prog w) hh (fillsNumberSlot (.ref C) nm) true := fills_K kk hcd hm at_
  have p4 : Looks (model prog w) hh (fillsNumberSlot (.type T) nm) ((fo.isSome && !isSeqSlot fo) || (ro.isSome && !isSeqSlot ro)) := ksp_fillsT kk e1 e2
  have p5 : Looks (model prog w) hh (isSubtype (.type T) (.ref C)) false := looks_subIn kk ns
  have p6 : Looks (model prog w) hh (numberSlotInPython (.ref C) nm) true := ksp_inPy kk at_ rn (.inl rfl)
  have p7 : Looks (model prog w) hh (numberSlotInPython (.type T) nm) false := Looks.of_pure rfl
  have p8 : Looks (model prog w) hh (typeLookup (.type T) (dunderR nm)) ro := looks_findIn kk e2
  generalize ((fo.isSome && !isSeqSlot fo) || (ro.isSome && !isSeqSlot ro)) = z at p4
  have hne : (Value.ref C == Value.type T) = false := by
    rw [Bool.eq_false_iff]
    intro q
    cases beq_iff_eq.mp q
  simp only [binaryOp, hi]
  refine wpAny_holding (wpAny_bind ?_)
  unfold binaryOp1
  refine wpAny_bind (p1.at (wpAny_bind (p2.at (wpAny_bind (p3.at ?_)))))
  simp only [hne, Bool.false_eq_true, if_false]
  cases z <;>
  · ksp_lk
    refine wpAny_mono one (fun r s' hr' => ?_) fun _ _ e => e
    obtain ⟨v, rfl, hq⟩ := hr'
    ksp_lk
    exact hq
end
structure BinM (K : PySem.W.Frag) (c : Str) (op : Operator) (f : Addr) (bs : List String) : Prop where
  b : BinC K c op f
  rn : PySem.W.findIn K (.ref (He.ga K c)) (dunderR op.info.2) = some none
  ty : ∀ T ∈ bs, (∃ fo, PySem.W.findIn K (.type T) (PySem.dunder op.info.2) = some fo) ∧ (∃ ro, PySem.W.findIn K (.type T) (dunderR op.info.2) = some ro) ∧ PySem.W.subIn K (.type T) (.ref (He.ga K c)) = some false
def ckBinM (c mn : Str) (op : Operator) (bs : List String) : Ck := fun K => ckBin c mn op K && (He.eqO (PySem.W.findIn K (.ref (He.ga K c)) (dunderR op.info.2)) (some none) && bs.all fun T => (PySem.W.findIn K (.type T) (PySem.dunder op.info.2)).isSome && ((PySem.W.findIn K (.type T) (dunderR op.info.2)).isSome && (PySem.W.subIn K (.type T) (.ref (He.ga K c)) == some false)))
theorem ckBinM_ok {K : PySem.W.Frag} {c mn : Str} {op : Operator} {bs : List String} (h : ckBinM c mn op bs K = true) : BinM K c op (He.ma K (He.ga K c) mn) bs := by
  unfold ckBinM at h
  rw [Bool.and_eq_true, Bool.and_eq_true] at h
  obtain ⟨h1, h2, h3⟩ := h
  refine ⟨ckBin_ok h1, He.eqO_ok h2, fun T hT => ?_⟩
  have h4 := List.all_eq_true.mp h3 T hT
  rw [Bool.and_eq_true, Bool.and_eq_true] at h4
  obtain ⟨h5, h6, h7⟩ := h4
  exact ⟨Option.isSome_iff_exists.mp h5, Option.isSome_iff_exists.mp h6, beq_iff_eq.mp h7⟩
section
variable {X : Cx} {a b : Expr} {c : Str} {pos : Pos} {da db : DE} {k : Nat} {f : Addr} {gz : List Vl → List Vl → List Vl} {g : FD} {op : Operator} {cs : List Str} {bs : List String}
/-- the types that may stand on the right -/
def binOk (c : Str) (bs : List String) : TD → Bool
  | .c d => decide (d = c)
  | .b T => bs.contains T
def dBinM (c : Str) (cs : List Str) (bs : List String) (gz : List Vl → List Vl → List Vl) (g : FD) (da db : DE) : DE := fun env m => bindR (da env m) fun x m => bindR (db env m) fun y m => match insD m x, tyD m y with
  | some (c1, _), some t => if (decide (c1 = c) && (binOk c bs t && tdOk cs t)) = true then g (gz [x, y] []) m else none
  | _, _ => none
theorem se_binM (B : BinM X.K c op f bs) (hI : InsA X.K cs) (F : Fz X.prog X.w X.K X.mg X.base k f 2 [] gz g) (hr : Room k X.A) (ha : SE X a da) (hb : SE X b db) : SE X (.BinOp a op b pos) (dBinM c cs bs gz g da db) := ⟨fun W tk => ⟨fun pins s σ H Q I h => by
  obtain ⟨ρ, env, m, z, m', st, ee, pp⟩ := h
  refine wpAny_BinOp ?_
  have h' : rdE X.K W da σ H (fun v H1 => rdE X.K W db σ H1 fun u H2 => ∃ q dx gs ρ' m1 xv yv t, v = .ref q ∧ H2 q = some (.ins (He.ga X.K c) dx gs) ∧ RM X.K ρ' m1 H2 ∧ RV X.K ρ' H2 xv v ∧ RV X.K ρ' H2 yv u ∧ tyD m1 yv = some t ∧ binOk c bs t = true ∧ tdOk cs t = true ∧ g (gz [xv, yv] []) m1 = some (z, m') ∧ Po X.K ρ' H2 (RV X.K) (fun c dd H' => W c dd σ H') Q z m') :=
    bindE st ee pp fun x m1 ρ1 H1 v s1 E1 r1 e1 p1 => bindE s1 e1 p1 fun y m2 ρ2 H2 u s2 E2 r2 e2 p2 => by
      split at e2
      · rename_i c1 fs t hi ht
        split at e2
        · rename_i hc
          rw [Bool.and_eq_true, Bool.and_eq_true, decide_eq_true_eq] at hc
          obtain ⟨rfl, hc1, hc2⟩ := hc
          obtain ⟨q, dx, gs, rfl, h3, h4⟩ := insD_ok s2.mem (r1.mono E2) hi
          exact ⟨q, dx, gs, ρ2, m2, x, y, t, rfl, h3, s2.mem, r1.mono E2, r2, ht, hc1, hc2, e2, p2⟩
        · cases e2
      · cases e2
  refine thn ((ha.run W tk).run pins s σ H _ I h') fun v s1 ⟨x, H1, I1, rx, q1⟩ => ?_
  refine thn ((hb.run W tk).run pins s1 σ H1 _ I1 q1) fun u s2 ⟨y, H2, I2, ry, q, dx, gs, ρ2, m2, xv, yv, t, ex, hq, M2, rxv, ryv, ht, hts, htc, eg, p2⟩ => ?_
  subst ex
  obtain rfl : v = Value.ref q := rx
  obtain ⟨mA, Oa, _⟩ := ins_get I2.hok hq
  obtain ⟨od, J, _⟩ := Oa.look
  obtain ⟨m0, hF⟩ := I2.fr
  obtain ⟨P, kx, hP, _⟩ := kit_of I2 ry (tyD_ok hI M2 ryv ht htc)
  have hl := kx.ty (model X.prog X.w) s2.heap I2.kIn hP
  have fin := thn (F.run hr tk (us := [.ref q, u]) (vs := [.ref q, y]) (ws := []) I2 (.cons rfl (.cons ry .nil)) .nil M2 (show RVs X.K ρ2 H2 [xv, yv] [.ref q, y] from ⟨_, _, rfl, rxv, _, _, rfl, ryv, rfl⟩) (show RVs X.K ρ2 H2 [] [] from rfl) rfl rfl eg p2) fun w s' z => cmpBack_of z
  cases t with
  | c d =>
    obtain rfl : d = c := of_decide_eq_true hts
    exact PySem.W.binop_K hF I2.ok.mod.kin J hl B.b.sf B.b.at_ B.b.fn fin
  | b T =>
    have hT : T ∈ bs := List.contains_iff_mem.mp hts
    obtain ⟨⟨fo, h1⟩, ⟨ro, h2⟩, h3⟩ := B.ty T hT
    exact bin_typed hF I2.ok.mod.kin J hl B.b.sf B.b.at_ B.b.fn B.rn h1 h2 h3 fin⟩⟩
end
end Z
namespace Z
open PySem PySem.Spec PyProof.Rows L2
/-! ### xs.extend(ys) -/
/-- a list that nobody has laid down for good -/
def plainL (m : Mem) : Vl → Option (List Vl)
  | .lst xs => some xs
  | .obj n => (match m[n]? with
    | some (.lst xs) => some xs
    | _ => none)
  | _ => none
def extM : FM := fun x xs m => match x, xs with
  | .obj n, [y] => (match m[n]?, plainL m y with
    | some (.lst ys), some zs => if ys.length + zs.length ≤ sizeLine then some (.non, m.set n (.lst (ys ++ zs))) else none
    | _, _ => none)
  | _, _ => none
theorem plainL_ok {K : PySem.W.Frag} {ρ : Lay} {m : Mem} {H : Hp} {x : Vl} {v : V} {xs : List Vl} (M : RM K ρ m H) (a : RV K ρ H x v) (h : plainL m x = some xs) : ∃ b vs, v = .ref b ∧ H b = some (.lst vs) ∧ RVs K ρ H xs vs := by
  cases x with
  | lst ys =>
    cases h
    obtain ⟨b, vs, rfl, _, h1, h2⟩ := a
    exact ⟨b, vs, rfl, h1, h2⟩
  | obj n =>
    unfold plainL at h
    dsimp only at h
    split at h
    · rename_i ys hy
      cases h
      obtain ⟨q, rfl, hq⟩ := a
      obtain ⟨us, h1, h2⟩ := M.at_ _ _ _ hy hq
      exact ⟨q, us, rfl, h1, h2⟩
    · cases h
  | _ => cases h
theorem smf_ext {K : PySem.W.Frag} : SMF K extM "list" rExtend := fun ρ m H x xs v vs z m' Q M a b e k => by
  unfold extM at e
  split at e
  · rename_i n y
    split at e
    · rename_i ys zs hy hz
      split at e
      · rename_i hc
        cases e
        obtain ⟨q, rfl, hq⟩ := a
        obtain ⟨us, h1, h2⟩ := M.at_ _ _ _ hy hq
        obtain ⟨v, s, rfl, r1, r2⟩ := b
        subst r2
        obtain ⟨p, ws, rfl, h3, h4⟩ := plainL_ok M r1 hz
        obtain ⟨M', E'⟩ := put_lst M hq (h2.append h4)
        exact ⟨q, p, us, ws, rfl, rfl, h1, h3, by rw [← h2.length, ← h4.length]; exact hc, k ρ _ _ M' E' rfl⟩
      · cases e
    · cases e
  · cases e
section
variable {X : Cx} {o e : Expr} {apos pos : Pos} {de : DE} {d : DA}
theorem se_extend (ho : SE X o de) (ha : SA X [e] d)
    (hbase : attributeBase o "extend" X.env (eval o X.env) = eval o X.env := by rfl)
    (hfew : ((backTo pos (starEach [e] X.env)).all (fun x => !x.1) && (backToKw pos (keywordEach [] X.env)).all (fun x => x.1.isSome)
      && decide ([e].length + ([] : List Keyword).length + (if ([] : List Keyword).isEmpty then 0 else 1) < 30)) = true := by rfl)
    (hline : (apos.endLine == pos.line) = true := by rfl) (hs : starEach [e] X.env = (false, eval e X.env) :: starEach [] X.env := by rfl) (hplain : (backTo pos (starEach [] X.env)).any (·.1) = false := by rfl) :
    SE X (.Call (.Attribute o "extend" apos) [e] [] pos) (dM "list" extM de d) := se_bm PySem.F.plainAttrs_list PySem.F.slot_list_extend PySem.F.type_list_extend mt_extend smf_ext ho ha hbase hfew hline hs hplain
end
theorem extM_z {p : Nat} {m : Mem} {y : Vl} {ys zs : List Vl} (hp : m[p]? = some (.lst ys)) (hy : plainL m y = some zs) (h : ys.length + zs.length ≤ sizeLine) : extM (.obj p) [y] m = some (.non, m.set p (.lst (ys ++ zs))) := by
  unfold extM
  simp only [hp, hy, h, if_true]
/-! ### data in which cells lie -/
def toDd (m : Mem) : Nat → Vl → Option PyData
  | 0, x => toDm m x
  | k + 1, .obj n => (match m[n]? with
    | some (.lst xs) => (mapO (toDd m k) xs).map .list
    | _ => none)
  | k + 1, .lst xs => (mapO (toDd m k) xs).map .list
  | k + 1, .tup xs => (mapO (toDd m k) xs).map .tuple
  | k + 1, x => toD x
theorem dpAll_of {K : PySem.W.Frag} {H : Hp} {f : Vl → Option PyData} {ρ : Lay} (ih : ∀ {x : Vl} {v : V} {d : PyData}, RV K ρ H x v → f x = some d → Dp K H v d) : ∀ {xs : List Vl} {vs : List V} {ds : List PyData}, RVs K ρ H xs vs → mapO f xs = some ds → DpAll K H vs ds
  | [], _, _, h, e => by
    cases e
    rw [show _ = [] from h]
    exact .nil
  | x :: xs, _, _, ⟨v, r, h1, h2, h3⟩, e => by
    subst h1
    unfold mapO at e
    split at e
    · rename_i d hd
      split at e
      · rename_i ds hds
        cases e
        exact .cons (ih h2 hd) (dpAll_of ih h3 hds)
      · cases e
    · cases e
theorem toDd_ok {K : PySem.W.Frag} {ρ : Lay} {m : Mem} {H : Hp} (M : RM K ρ m H) : ∀ (k : Nat) {x : Vl} {v : V} {d : PyData}, RV K ρ H x v → toDd m k x = some d → Dp K H v d
  | 0, x, v, d, h, e => toDm_ok M h e
  | k + 1, x, v, d, h, e => by
    cases x with
    | obj n =>
      unfold toDd at e
      split at e
      · rename_i xs hx
        obtain ⟨ds, h1, rfl⟩ := map_some e
        obtain ⟨p, rfl, hp⟩ := h
        obtain ⟨vs, h2, h3⟩ := M.at_ _ _ _ hx hp
        exact .lst (SqL.of h2) (dpAll_of (toDd_ok M k) h3 h1)
      · cases e
    | lst xs =>
      obtain ⟨ds, h1, rfl⟩ := map_some (show (mapO (toDd m k) xs).map PyData.list = some d from e)
      obtain ⟨p, vs, rfl, _, h2, h3⟩ := h
      exact .lst (SqL.of h2) (dpAll_of (toDd_ok M k) h3 h1)
    | tup xs =>
      obtain ⟨ds, h1, rfl⟩ := map_some (show (mapO (toDd m k) xs).map PyData.tuple = some d from e)
      obtain ⟨p, vs, rfl, h2, h3⟩ := h
      exact .tup h2.sq (dpAll_of (toDd_ok M k) h3 h1)
    | _ => exact toD_ok h e
def reprN : FB := fun xs m => match xs with
  | [x] => (match toDd m 3 x with
    | some d => if (PyData.showable d && !PyData.hasDict d && decide (d.depth ≤ 60) && decide (shB d ≤ sizeLine)) = true then some (.str d.shown, m) else none
    | none => none)
  | _ => none
theorem scf_reprN {K : PySem.W.Frag} : SCF K reprN (fun xs H Q => ∃ x d, xs = [x] ∧ Dp K H x d ∧ PyData.showable d = true ∧ PyData.hasDict d = false ∧ d.depth ≤ 60 ∧ d.shown.length ≤ sizeLine ∧ Q (.str d.shown) H) := fun ρ m H xs vs z m' Q M a e k => by
  unfold reprN at e
  split at e
  · rename_i x
    split at e
    · rename_i d hd
      split at e
      · rename_i c
        cases e
        simp only [Bool.and_eq_true, Bool.not_eq_true', decide_eq_true_eq] at c
        obtain ⟨v, s, rfl, h1, h2⟩ := a
        subst h2
        exact ⟨v, d, rfl, toDd_ok M 3 h1 hd, c.1.1.1, c.1.1.2, c.1.2, Nat.le_trans (shown_le d) c.2, k ρ H _ M .refl rfl⟩
      · cases e
    · cases e
  · cases e
section
variable {X : Cx}
theorem se_reprN {p pos : Pos} {es : List Expr} {e : Expr} {d : DA} (hr : Room 0 X.A) (hg : Gl X "repr") (hm : X.mg "repr" = none) (ha : SA X (e :: es) d) (he : starEach (e :: es) X.env = (false, eval e X.env) :: starEach es X.env := by rfl) (hpl : (backTo pos (starEach es X.env)).any (·.1) = false := by rfl) :
    SE X (.Call (.Name "repr" p) (e :: es) [] pos) (dB reprN d) := se_callB (call_reprD hr) scf_reprN hg hm (by decide +kernel) ha (by decide) (by decide) he hpl
end
end Z
namespace Z
open PySem PySem.Spec PyProof.Rows L2
/-! ### x(..) of an instance whose class has a __call__ -/
section
open PySem.W
variable {prog : Program} {w : World} {A : Around} {E : Value → Shared → Prop} {s : Shared} {K : Frag} {q dx C f : Addr}
theorem callWith_inst {pos : Pos} {first : List Value} {args : List (Bool × Sem Value)} {Q : Value → Shared → Prop} (hp : args.any (·.1) = false)
    (h : wpAny (model prog w) A (evalArgs (.ref q) true args []) (fun x s₁ => (∃ dx, s₁.heap.get? q = some (instObj C dx)) ∧ wpAny (model prog w) A (call (.ref q) (first ++ x.pos) x.kw) Q E s₁) E s) : wpAny (model prog w) A (callWith pos (.ref q) first args []) Q E s := by
  unfold callWith
  refine wpAny_bind (wpAny_holding (wpAny_mono h (fun x s₁ h₁ => wpAny_bind (wpAny_standAt ?_)) fun _ _ x => x))
  obtain ⟨⟨dx, ho⟩, hcall⟩ := h₁
  simp only [hp, List.any_nil, Bool.or_false]
  refine wpAny_bind (m := keeperOf (.ref q)) ?_
  unfold keeperOf
  refine wpAny_bind (wpAny_load ho ?_)
  have e1 : ((Value.ref C) != Value.type "method") = true := by
    rw [bne_iff_ne]
    intro e
    cases e
  have e2 : (Value.ref C == Value.type "builtin_function_or_method" || Value.ref C == Value.type "method-wrapper") = false := by
    rw [Bool.or_eq_false_iff, beq_eq_false_iff_ne, beq_eq_false_iff_ne]
    exact ⟨fun e => (by cases e), fun e => (by cases e)⟩
  simp only [instObj, e1, e2, if_true, Bool.false_eq_true, if_false]
  refine wpAny_pure ?_
  refine wpAny_bind (wpAny_operate' (wpAny_mono hcall (fun r s₂ hr => wpAny_bind (wpAny_holding (wpAny_point (wpAny_pure hr)))) fun _ _ x => x))
theorem codeAny_inst {us : List Value} {kw : List (Str × Value)} {R : Result → Shared → Prop} {od : Option Obj} {of : Obj} {fd : FuncData} (X : K.In s.heap) (I : InstAt s.heap q (instObj C dx) C od)
    (hs : findIn K (.ref C) "__call__" = some (some (.ref f))) (hf : isFn K (.ref f) = true) (ho : s.heap.get? f = some of) (hd : of.data = .func fd)
    (h : codeAny (model prog w) A (.call (.ref f) ⟨.ref q :: us, kw⟩) R s) : codeAny (model prog w) A (.call (.ref q) ⟨us, kw⟩) R s := by
  have e2 : (Value.ref C == Value.type "method" || Value.ref C == Value.type "builtin_function_or_method" || Value.ref C == Value.type "method-wrapper") = false := by
    rw [Bool.or_eq_false_iff, Bool.or_eq_false_iff, beq_eq_false_iff_ne, beq_eq_false_iff_ne, beq_eq_false_iff_ne]
    exact ⟨⟨fun e => (by cases e), fun e => (by cases e)⟩, fun e => (by cases e)⟩
  refine codeAny_of_tree ?_
  show wpAny _ _ (callAny (.ref q) ⟨us, kw⟩) _ _ s
  unfold callAny
  refine wpAny_bind (wpAny_load I.at_ ?_)
  simp only [instObj, e2, Bool.false_eq_true, if_false]
  unfold callAny.viaDunder
  refine wpAny_bind (wpAny_bind (I.type.here ((looks_findIn X hs).here ?_)))
  refine wpAny_bind ((bind_fn X _ (beq_iff_eq.mp hf)).here ?_)
  unfold callAny.plainCallee
  refine wpAny_bind (wpAny_bind (wpAny_load ho ?_))
  rw [hd]
  refine wpAny_pure ?_
  exact wpAny_pure ⟨rfl, h⟩
end
structure CallM (K : PySem.W.Frag) (c : Str) (f : Addr) : Prop where
  at_ : PySem.W.findIn K (.ref (He.ga K c)) "__call__" = some (some (.ref f))
  fn : PySem.W.isFn K (.ref f) = true
  fi : PySem.W.fnIn K f = true
def ckCallM (c : Str) : Ck := fun K => He.eqO (PySem.W.findIn K (.ref (He.ga K c)) "__call__") (some (some (.ref (He.ma K (He.ga K c) "__call__")))) && (PySem.W.isFn K (.ref (He.ma K (He.ga K c) "__call__")) && PySem.W.fnIn K (He.ma K (He.ga K c) "__call__"))
theorem ckCallM_ok {K : PySem.W.Frag} {c : Str} (h : ckCallM c K = true) : CallM K c (He.ma K (He.ga K c) "__call__") := by
  unfold ckCallM at h
  rw [Bool.and_eq_true, Bool.and_eq_true] at h
  exact ⟨He.eqO_ok h.1, h.2.1, h.2.2⟩
section
variable {X : Cx} {e : Expr} {es : List Expr} {c : Str} {p pos : Pos} {x : Str} {de : DE} {d : DA} {k n : Nat} {f : Addr} {gz : List Vl → List Vl → List Vl} {g : FD}
/-- the receiver is an instance of c, before the arguments and behind them -/
def dICall (c : Str) (n : Nat) (gz : List Vl → List Vl → List Vl) (g : FD) (de : DE) (d : DA) : DE := fun env m => bindR (de env m) fun x m => match insD m x with
  | some (c', _) => if c' = c then bindR (d env m) fun xs m => (match insD m x with
    | some (c2, _) => if c2 = c ∧ xs.length = n then g (gz (x :: xs) []) m else none
    | none => none) else none
  | none => none
theorem se_icall (B : CallM X.K c f) (F : Fz X.prog X.w X.K X.mg X.base k f (n + 1) [] gz g) (hr : Room k X.A) (hv : SE X (.Name x p) de) (ha : SA X (e :: es) d)
    (he : starEach (e :: es) X.env = (false, eval e X.env) :: starEach es X.env := by rfl) (hpl : (backTo pos (starEach es X.env)).any (·.1) = false := by rfl) : SE X (.Call (.Name x p) (e :: es) [] pos) (dICall c n gz g de d) := ⟨fun W tk => ⟨fun pins s σ H Q I h => by
  obtain ⟨ρ, env, m, z, m', st, ee, pp⟩ := h
  have h' : rdE X.K W de σ H (fun v H1 => ∃ q, v = .ref q ∧ rdA X.K W d σ H1 fun vs H2 => ∃ dx gs ρ' m1 xv xs, H2 q = some (.ins (He.ga X.K c) dx gs) ∧ RM X.K ρ' m1 H2 ∧ RV X.K ρ' H2 xv v ∧ RVs X.K ρ' H2 xs vs ∧ xs.length = n ∧ g (gz (xv :: xs) []) m1 = some (z, m') ∧ Po X.K ρ' H2 (RV X.K) (fun c dd H' => W c dd σ H') Q z m') :=
    bindE st ee pp fun x m1 ρ1 H1 v s1 E1 r1 e1 p1 => by
      split at e1
      · rename_i c' fs hi
        split at e1
        · rename_i hc'
          subst hc'
          obtain ⟨q, dx, gs, rfl, h3, h4⟩ := insD_ok s1.mem r1 hi
          refine ⟨q, rfl, bindA s1 e1 p1 fun xs m2 ρ2 H2 vs s2 E2 r2 e2 p2 => ?_⟩
          split at e2
          · rename_i c2 fs2 hi2
            split at e2
            · rename_i hc
              obtain ⟨rfl, hn⟩ := hc
              obtain ⟨q', dx', gs', eq, h5, h6⟩ := insD_ok s2.mem (r1.mono E2) hi2
              cases eq
              exact ⟨dx', gs', ρ2, m2, x, xs, h5, s2.mem, r1.mono E2, r2, hn, e2, p2⟩
            · cases e2
          · cases e2
        · cases e1
      · cases e1
  refine wpAny_Call_Name_kw (thn ((hv.run W tk).run pins s σ H _ I h') fun u s1 ⟨v, H1, I1, rx, q, ev, q1⟩ => ?_)
  subst ev
  obtain rfl : u = Value.ref q := rx
  show wpAny _ _ (callWith pos (.ref q) [] (backTo pos (starEach (e :: es) X.env)) []) _ _ _
  rw [he]
  have hp : ((backTo pos ((false, eval e X.env) :: starEach es X.env)).any (·.1)) = false := by
    show (false || (backTo pos (starEach es X.env)).any (·.1)) = false
    rw [hpl]
    rfl
  have run := (ha.run W tk).run pos pins s1 σ _ _ I1 q1
  rw [he] at run
  refine callWith_inst (C := He.ga X.K c) hp (PySem.Calls.evalArgs_plain (thn run fun us s2 ⟨vs, H2, I2, r, dx, gs, ρ2, m2, xv, xs, hq, M2, rxv, rxs, hn, eg, p2⟩ => ?_))
  obtain ⟨mA, Oa, _⟩ := ins_get I2.hok hq
  obtain ⟨od, J, _⟩ := Oa.look
  refine ⟨⟨dx, Oa.obj⟩, ?_⟩
  obtain ⟨of, fd0, ho, hd⟩ : ∃ (of : Obj) (fd : FuncData), s2.heap.get? f = some of ∧ of.data = .func fd := by
    have hfi := B.fi
    unfold PySem.W.fnIn at hfi
    split at hfi
    · rename_i e
      exact ⟨_, _, I2.kIn _ _ e, rfl⟩
    · cases hfi
  obtain ⟨fd, ps, gs', gV, h1, h2, h3⟩ := F.ex
  obtain ⟨hl, rg⟩ := h3 ρ2 H2 (xv :: xs) (.ref q :: vs) [] [] (by rw [List.length_cons, hn]) rfl ⟨_, _, rfl, rxv, rxs⟩ rfl
  have r1 : Vals (V.ref q :: vs) (Value.ref q :: us) := .cons rfl r
  have r2 := h2.rel r1 (.nil : Vals [] [])
  show wpAny _ _ (call (.ref q) us []) _ _ _
  refine wpAny_call (codeAny_inst I2.kIn J B.at_ B.fn ho hd (codeAny_mono (h1.run X.A X.stack s2 H2 ⟨.ref q :: us, []⟩ (gs' (.ref q :: us) []) (gV (.ref q :: vs) []) Q (fun c dd H' => W c dd σ H') hr I2.env0 (h2.to s2 (.ref q :: us) [] I2.kIn (by rw [List.length_cons, ← r.length, ← rxs.length, hn]) rfl) r2 ⟨hl, ρ2, m2, _, z, m', M2, rg, eg, p2⟩) fun rr s' hq' => ?_))
  cases rr with
  | error er => exact tk er s' (XE.of_call I2 (fun _ _ _ h => h) hq')
  | ok fl =>
    cases fl with
    | ret w => exact I2.after hq'
    | next => exact False.elim hq'
    | brk => exact False.elim hq'
    | cont => exact False.elim hq'⟩⟩
end
end Z
namespace Z
open PySem PySem.Spec PyProof.Rows L2
/-! ### t[lo:hi] of a tuple, the whole of it too -/
def slA (x : Vl) (lo hi : Option Int) (m : Mem) : Option (Vl × Mem) := match x with
  | .tup xs => some (.tup (cutZ xs lo hi), m)
  | _ => none
theorem cutZ_whole {xs : List Vl} {lo hi : Option Int} (h : HT.sIx xs.length 0 lo = 0 ∧ HT.sIx xs.length xs.length hi = xs.length) : cutZ xs lo hi = xs := by
  unfold cutZ
  rw [h.1, h.2]
  simp
theorem slA_ok {K : PySem.W.Frag} {ρ : Lay} {m : Mem} {H : Hp} {x : Vl} {v : V} {lo hi : Option Int} {z : Vl} {m' : Mem} {Q : VK} (M : RM K ρ m H) (a : RV K ρ H x v) (e : slA x lo hi m = some (z, m'))
    (k : ∀ ρ' H' w, RM K ρ' m' H' → Ext ρ H ρ' H' → RV K ρ' H' z w → Q w H') : rSlA K v lo hi H Q := by
  unfold slA at e
  split at e
  · rename_i xs
    cases e
    have a0 := a
    obtain ⟨p, vs, rfl, h1, h2⟩ := a
    refine ⟨p, vs, rfl, h1.sq, fun hw => ?_, fun hw n hn => k ρ _ _ (M.laid hn) (ext_new hn) (new_tup M hn h2.cut)⟩
    rw [← h2.length] at hw
    refine k ρ H _ M .refl ?_
    rw [cutZ_whole hw]
    exact a0
  · cases e
def dSlA (da : DE) (lo hi : DO) : DE := fun env m => bindR (da env m) fun x m => bindR (lo env m) fun l m => bindR (hi env m) fun h m => okR (slA x l h m)
section
variable {X : Cx} {a b : Expr} {pos : Pos} {da db : DE}
theorem se_sliceA {lo hi : Option Expr} {p2 : Pos} {dl dh : DO} (ha : SE X a da) (hl : SO X lo dl) (hh : SO X hi dh) : SE X (.Subscript a (.Slice lo hi none p2) pos) (dSlA da dl dh) := ⟨fun W tk =>
  impPE (pe_slice sl_tupA (ha.run W tk) (hl.run W tk) (hh.run W tk)) fun σ H Q ⟨ρ, env, m, z, m', s, e, p⟩ =>
    bindE s e p fun x m1 ρ1 H1 v s1 E1 r1 e1 p1 => bindO s1 e1 p1 fun l m2 ρ2 H2 s2 E2 e2 p2 => bindO s2 e2 p2 fun h m3 ρ3 H3 s3 E3 e3 p3 => by
      obtain ⟨w, h1, rfl⟩ := okR_some e3
      exact slA_ok s3.mem (r1.mono (E2.trans E3)) h1 fun ρ' H' u' M E r => p3 ρ' H' M E u' r⟩
/-! t + u of tuples, empty ones too -/
def catT : F2 := fun x y m => match x, y with
  | .tup a, .tup b => if a.length + b.length ≤ sizeLine then some (.tup (a ++ b), m) else none
  | _, _ => none
theorem sf_catT {K : PySem.W.Frag} : SF2 K catT (rCatA K) := fun ρ m H x y v u z m' Q M ra rb e k => by
  unfold catT at e
  split at e
  · rename_i xs ys
    split at e
    · rename_i hz
      cases e
      have ra0 := ra
      have rb0 := rb
      obtain ⟨p, vs, rfl, h1, h2⟩ := ra
      obtain ⟨q, ws, rfl, h3, h4⟩ := rb
      refine ⟨p, q, vs, ws, rfl, rfl, h1.sq, h3.sq, by rw [← h2.length, ← h4.length]; exact hz, fun hv => ?_, fun hv hw => ?_, fun hv hw n hn => k ρ _ _ (M.laid hn) (ext_new hn) (new_tup M hn (h2.append h4))⟩
      · have : xs = [] := h2.nil_iff.mpr hv
        subst this
        exact k ρ H _ M .refl rb0
      · have : ys = [] := h4.nil_iff.mpr hw
        subst this
        refine k ρ H _ M .refl ?_
        rw [List.append_nil]
        exact ra0
    · cases e
  · cases e
theorem se_catT (ha : SE X a da) (hb : SE X b db) : SE X (.BinOp a .Add b pos) (d2 catT da db) := se_2 op_catA sf_catT ha hb
end
theorem catT_tup {a b : List Vl} {m : Mem} (h : a.length + b.length ≤ sizeLine) : catT (.tup a) (.tup b) m = some (.tup (a ++ b), m) := by
  show (if a.length + b.length ≤ sizeLine then some (Vl.tup (a ++ b), m) else none) = _
  rw [if_pos h]
@[simp] theorem dSlA_ap {da : DE} {lo hi : DO} {env : Ev} {m : Mem} : dSlA da lo hi env m = bindR (da env m) fun x m => bindR (lo env m) fun l m => bindR (hi env m) fun h m => okR (slA x l h m) := rfl
@[simp] theorem slA_tup {xs : List Vl} {lo hi : Option Int} {m : Mem} : slA (.tup xs) lo hi m = some (.tup (cutZ xs lo hi), m) := rfl
end Z
namespace Z
open PySem PySem.Spec PyProof.Rows L2
/-! ### enumerate of a tuple -/
theorem meets_enum_one {v : Value} {o : Obj} {G : Heap → Prop} (B : Begins v o G) :
    Meets (Builtin.«enumerate.__new__» ⟨[.type "enumerate", v], []⟩) (fun _ R s => G s.heap ∧
      R (.ok (.ret (.ref (s.heap.push o).objs.size))) { s with heap := (s.heap.push o).push { cls := .type "enumerate", data := .fields #[.none, .bool false, .ref s.heap.objs.size, rawInt 0, .none, .none] } }) :=
  .of_wp fun prog w A R s h => by
    obtain ⟨hp, g, d, tk, os⟩ := s
    obtain ⟨h1, h⟩ := h
    have hsub := sub_enumerate
    have it1 : ∀ {A' : Around} {E : Value → Shared → Prop} {Q : Value → Shared → Prop}, Q (.ref hp.objs.size) ⟨hp.push o, g, d, tk, os⟩ → wpAny (model prog w) A' (pyIter v) Q E ⟨hp, g, d, tk, os⟩ :=
      fun q => B.iter prog w _ _ ⟨hp, g, d, tk, os⟩ _ h1 q
    wp_walk using it1
    refine wpAny_stack_any fun st => wpAny_pure ?_
    split
    · rename_i c _ _ _ _ _
      cases (c == Value.type "enumerate") <;>
      · wp_walk using it1
        exact ⟨_, rfl, h⟩
    · wp_walk using it1
      exact ⟨_, rfl, h⟩
section
variable {prog : Program} {w : World} {A : Around} {E : Value → Shared → Prop} {s : Shared}
theorem enum_one {v : Value} {o : Obj} {G : Heap → Prop} {Q : Value → Shared → Prop} (B : Begins v o G) (h1 : G s.heap)
    (h : ∀ h', IsEnum h' (s.heap.objs.size + 1) s.heap.objs.size 0 .none → h'.get? s.heap.objs.size = some o →
      (∀ b o, s.heap.get? b = some o → h'.get? b = some o) → Q (.ref (s.heap.objs.size + 1)) { s with heap := h' }) :
    wpAny (model prog w) A (call (.type "enumerate") [v]) Q E s := by
  refine callType_new F.called_enumerate (by decide) (F.typeCall_enumerate_1 _) (F.newCall_enumerate_1 _)
    (fun obj => F.args_object_init_2 obj _) F.entry_enumerate_new (meets_enum_one B) ⟨h1, ?_⟩
  have hz : (s.heap.push o).objs.size = s.heap.objs.size + 1 := Heap.size_push ..
  show _ ∧ _
  rw [hz]
  have he : IsEnum ((s.heap.push o).push { cls := .type "enumerate", data := .fields #[.none, .bool false, .ref s.heap.objs.size, rawInt 0, .none, .none] }) (s.heap.objs.size + 1) s.heap.objs.size 0 .none := by
    have q := Heap.get?_push_size (s.heap.push o) (o := { cls := .type "enumerate", data := .fields #[.none, .bool false, .ref s.heap.objs.size, rawInt 0, .none, .none] }) rfl
    rw [hz] at q
    exact q
  exact ⟨⟨_, he, rfl⟩, h _ he (Heap.get?_push_of_some _ (Heap.get?_push_size _ B.free)) fun b o x => Heap.get?_push_of_some _ (Heap.get?_push_of_some _ x)⟩
theorem enum_tup_end {e it t : Addr} {items : Array Value} {j : Nat} {i : Int} {old : Value} {Q : Option Value → Shared → Prop}
    (hh : A.in1.handled = none) (he : IsEnum s.heap e it i old) (hit : s.heap.IsTupleIter it t j) (ht : s.heap.IsTuple t items) (hj : items[j]? = none)
    (hQ : ∀ h', Heap.ExtBut it s.heap h' → Q none { s with heap := h' }) : wpAny (model prog w) A (pyNext (.ref e)) Q E s := by
  have hTe : s.TypeIs (.ref e) "enumerate" := ⟨_, he, rfl⟩
  unfold pyNext
  refine wpAny_bind (wpAny_attempt (wpAny_callSpecial?_slot (name := Str.ofString "__next__") hTe F.slot_enumerate_next (wpAny_call_entry F.slot_enumerate_next hTe F.entry_enumerate_next ?_ (F.args_enumerate_next_1 _))))
  show wpAny (model prog w) _ (field (.ref e) 2 >>= _) _ _ _
  refine wpAny_bind (wpAny_field he rfl (x := .ref it) rfl (wpAny_bind (wpAny_nextOf_tuple_end hh hit ht hj fun h' x ext hx' => ?_)))
  obtain ⟨o, ho, hc⟩ := hx'
  exact wpAny_bind (wpAny_isInstance (T := "StopIteration") (b := true) ⟨o, ho, hc⟩ isSubtype_stop (wpAny_pure (hQ _ ext)))
end
/-- a tuple's items, each in a new pair -/
def IteT (K : PySem.W.Frag) (a : Addr) : It :=
  ⟨fun i H => ∃ (xs : List V) (x : V), SqT K H a xs ∧ xs[i]? = some x,
    fun i H v H' => ∃ T x, v = .ref T ∧ H T = none ∧ H' = upd H T (.tup [.int (i : Nat), x]) ∧ ∀ xs, SqT K H a xs → xs[i]? = some x,
    fun i H => ∃ xs : List V, SqT K H a xs ∧ xs.length ≤ i⟩
theorem turn_enumT {P : Program} {w : World} {K : PySem.W.Frag} {elts : List Expr} {kk : Nat} {tpos : Pos} (a e it : Addr) :
    Turn P w K (.Tuple elts kk tpos) (IteT K a) [e, it] e (fun i h => (∃ old, IsEnum h e it ((i : Nat) : Int) old) ∧ h.IsTupleIter it a i ∧ e ≠ it ∧ e ≠ a ∧ a ≠ it) where
  mem := by simp
  obj := fun i h st b hb => by
    obtain ⟨⟨old, he⟩, ⟨o, ho, hc, hd⟩, _⟩ := st
    rcases (show b = e ∨ b = it by simpa using hb) with z | z
    · rw [z]
      exact ⟨_, he, fun v q => nomatch q⟩
    · rw [z]
      exact ⟨o, ho, fun v q => by rw [hd] at q; cases q⟩
  keep := fun i h h' st k => by
    obtain ⟨⟨old, he⟩, hi, hne⟩ := st
    exact ⟨⟨old, k e (by simp) _ he⟩, hi.at fun o q => k it (by simp) o q, hne⟩
  item := by
    intro X hP hw hK hc i pins s σ H E I hf st hg
    subst hP hw hK
    obtain ⟨⟨old, he⟩, hit, hne, hea, hai⟩ := st
    obtain ⟨xs, x, hq, hx⟩ := hg
    obtain ⟨its, rv, p, hz⟩ := I.tuple hq
    obtain ⟨u, hu, ru⟩ := rv.get hx
    have hel : e < s.heap.objs.size := Heap.lt_size he
    have hil : it < s.heap.objs.size := by
      obtain ⟨_, q, _⟩ := hit
      exact Heap.lt_size q
    have hh : X.A.in1.handled = none := I.ok.hd hc
    have hlt : i < its.toArray.size := by
      rw [List.size_toArray]
      exact getlt hu
    refine wpAny_pyNext_enum_itemD (Draws.tuple hh it a hai its.toArray) he ⟨hit, p⟩ hlt hne (by simp [hne, hea]) fun y h' tk hy ho hs' hT hsz hk => ?_
    obtain rfl : y = u := by
      have e1 : its.toArray[i]? = some u := by simpa using hu
      rw [e1] at hy
      cases hy
      rfl
    refine ⟨_, rfl, wpAny_letOwnedTupleGo_enum (s := { s with heap := h', toks := tk + 1 }) ho fun h'' he' sb => ?_⟩
    have hT2 : h''.get? s.heap.objs.size = some { cls := .type "tuple", data := .seq #[.int i tk, y] } := (sb.2 _ (Nat.ne_of_gt hel)).trans hT
    have new : ObjOk X.prog X.w (upd H s.heap.objs.size (.tup [.int (i : Nat), x])) h'' s.heap.objs.size (.tup [.int (i : Nat), x]) :=
      ⟨by show 2 ≤ sizeLine; decide, [.int i tk, y], .cons ⟨_, rfl⟩ (.cons ru .nil), ⟨_, hT2, rfl, _, rfl⟩⟩
    have I1 : Inv X pins σ (upd H s.heap.objs.size (.tup [.int (i : Nat), x])) { s with heap := h'', toks := tk + 1 } :=
      I.turnedNew (ch := [e, it]) (fun b ob hb q => (sb.2 b (fun z => hb (by simp [z]))).trans (hk b ob (fun z => hb (by simp [z])) (fun z => hb (by simp [z])) q)) hf (Nat.le_refl _) new
    refine ⟨.ref s.heap.objs.size, _, I1, rfl, ⟨_, x, rfl, I.hok.fresh (Nat.le_refl _), rfl, fun ys hy => by rw [I.tuple_inj hy hq]; exact hx⟩, ⟨⟨y, ?_⟩, hs'.1.at fun o q => (sb.2 it (Ne.symm hne)).trans q, hne, hea, hai⟩, fun b hb => ?_⟩
    · have e1 : ((i + 1 : Nat) : Int) = (i : Int) + 1 := by omega
      rw [e1]
      exact he'
    · have hb' : b < s.heap.objs.size := by
        rcases (show b = e ∨ b = it by simpa using hb) with z | z
        · rw [z]
          exact hel
        · rw [z]
          exact hil
      rw [upd_ne (Nat.ne_of_lt hb')]
      exact (hf b hb).1
  done := by
    intro X hP hw hK hc i pins s σ H E I hf st hg
    subst hP hw hK
    obtain ⟨⟨old, he⟩, hit, hne, hea, hai⟩ := st
    obtain ⟨xs, hq, hx⟩ := hg
    obtain ⟨its, rv, p, hz⟩ := I.tuple hq
    obtain ⟨f0, f1, f2, f3, f4, f5⟩ := hf it (by simp)
    have hl := rv.length
    exact enum_tup_end (I.ok.hd hc) he hit p (by simp; omega) fun h' eb => ⟨rfl, I.turned (t' := s.toks) (fun b o hb q => eb b o hb q) f0 f1 f3 f4 f5⟩
  self := fun A i s Q E st h => let ⟨⟨_, he⟩, _⟩ := st; wpAny_pyIter_enum he h
section
variable {X : Cx} {e : Expr} {p pos tpos : Pos} {elts : List Expr} {kk : Nat}
def iEnumT (K : PySem.W.Frag) (ta : TA) : TI := fun σ H R => ta σ H fun vs H1 => ∃ a xs, vs = [.ref a] ∧ SqT K H1 a xs ∧ R (IteT K a) H1
theorem pi_enumT {ta : TA} (hg : Gl X "enumerate") (hm : X.mg "enumerate" = none) (ha : PA X [e] ta) (hs : starEach [e] X.env = [(false, eval e X.env)] := by rfl) :
    PI X (.Tuple elts kk tpos) (.Call (.Name "enumerate" p) [e] [] pos) (iEnumT X.K ta) := by
  refine ⟨fun pins s σ H R I h => ?_⟩
  refine Call_ (ld_blt I hg hm boot_enumerate (PyProof.Rows.callWith_type1 (thn (ha.run pos pins s σ H _ I h) fun us s1 ⟨vs, H1, I1, r1, q1⟩ => ?_) hs rfl))
  obtain ⟨a, xs, ex, hq, q⟩ := q1
  subst ex
  cases r1 with
  | cons r rr =>
    cases rr
    cases r
    obtain ⟨its, rv, pt, hz⟩ := I1.tuple hq
    have hal : a < s1.heap.objs.size := by
      obtain ⟨o, ho, _⟩ := pt
      exact Heap.lt_size ho
    refine enum_one (begins_tuple a its.toArray) pt fun h' he hit hk => wpAny_pyIter_enum he ?_
    have I2 : Inv X pins σ H1 { s1 with heap := h' } := I1.kept (t' := s1.toks) hk
    refine ⟨s1.heap.objs.size + 1, [s1.heap.objs.size + 1, s1.heap.objs.size], _, _, H1, rfl, I2, turn_enumT a (s1.heap.objs.size + 1) s1.heap.objs.size, ⟨⟨.none, he⟩, ⟨_, hit, rfl, rfl⟩, Nat.succ_ne_self _, (Nat.ne_of_gt (Nat.lt_succ_of_lt hal)), Nat.ne_of_lt hal⟩, fun b hb => ?_, q⟩
    have hle : s1.heap.objs.size ≤ b := by
      rcases (show b = s1.heap.objs.size + 1 ∨ b = s1.heap.objs.size by simpa using hb) with z | z
      · rw [z]
        exact Nat.le_add_right _ _
      · rw [z]
        exact Nat.le_refl _
    exact I1.fpOk hle (I1.hok.fresh hle)
theorem itOk_enumT {K : PySem.W.Frag} {ρ0 : Lay} {H0 : Hp} {a : Addr} {vs : List V} {xs : List Vl} (h : ∀ ρ H, Ext ρ0 H0 ρ H → SqT K H a vs) (r : RVs K ρ0 H0 xs vs) : ItOk K (IteT K a) ρ0 H0 (enumZ xs) := fun i ρ m H E M => by
  refine ⟨fun y hy => ?_, fun hl => ⟨vs, h ρ H E, by rw [← r.length, ← enumZ_len (xs := xs)]; exact hl⟩⟩
  obtain ⟨x, hx, rfl⟩ := enumZ_get hy
  obtain ⟨v, h1, h2⟩ := r.get hx
  refine ⟨⟨vs, v, h ρ H E, h1⟩, fun w H' q => ?_⟩
  obtain ⟨T, u, rfl, hT, rfl, q2⟩ := q
  have q3 := q2 vs (h ρ _ E)
  rw [h1] at q3
  cases q3
  exact ⟨M.laid hT, ext_new hT, new_tup M hT ⟨_, _, rfl, rfl, _, _, rfl, h2.mono E, rfl⟩⟩
def iEnmT (d : DA) : DA := fun env m => bindR (d env m) fun xs m => match xs with
  | [.tup ys] => some (.ok (enumZ ys), m)
  | _ => none
theorem si_enumT {d : DA} (hg : Gl X "enumerate") (hm : X.mg "enumerate" = none) (ha : SA X [e] d) (hs : starEach [e] X.env = [(false, eval e X.env)] := by rfl) :
    SI X (.Tuple elts kk tpos) (.Call (.Name "enumerate" p) [e] [] pos) (iEnmT d) := ⟨fun W tk => impPI (pi_enumT hg hm (ha.run W tk) hs) fun σ H R h =>
  rdI_A (Q := fun vs H1 => ∃ a xs, vs = [.ref a] ∧ SqT X.K H1 a xs ∧ R (IteT X.K a) H1) h (fun x m1 ρ env xs v H1 s r e k => by
    split at e
    · rename_i ys
      cases e
      obtain ⟨w, vs, rfl, r1, r2⟩ := r
      subst r2
      obtain ⟨q, vs, rfl, h1, h2⟩ := r1
      exact ⟨q, vs, rfl, h1.sq, k _ (itOk_enumT (fun ρ' H' E => (h1.mono E).sq) h2)⟩
    · cases e) fun x m r m' e => by
    split at e
    · cases e
      exact ⟨⟨_, rfl⟩, rfl⟩
    · cases e⟩
end
@[simp] theorem iEnmT_ap {d : DA} {env : Ev} {m : Mem} : iEnmT d env m = bindR (d env m) fun xs m => match xs with
  | [.tup ys] => some (.ok (enumZ ys), m)
  | _ => none := rfl
end Z
namespace Z
open PySem PySem.Spec PyProof.Rows L2
/-! ### while: so many turns at most -/
def whileL (t : DT) (b : DS) : Nat → DS
  | 0 => fun _ _ => none
  | k + 1 => fun env m => bindS (t env m) env fun x m => if x = true then (match b env m with
    | some (.nx env2, m2) => whileL t b k env2 m2
    | some (.ct env2, m2) => whileL t b k env2 m2
    | some (.bk env2, m2) => some (.nx env2, m2)
    | r => r) else some (.nx env, m)
def dWhile (n : Nat) (t : DT) (b : DS) : DS := whileL t b n
theorem ss_while {X : Cx} {c : Expr} {body : List Stmt} {pos : Pos} {n : Nat} {t : DT} {b : DS} (hp : PassesOwn (model X.prog X.w) X.A X.env X.xe) (hc : ST X c t) (hb : SSs X body b) : SS X (.While c body [] pos) (dWhile n t b) := ⟨fun W tk =>
  impPS (ps_while hp (hc.run W tk) (hb.run W tk)) fun D σ H ⟨ρ, env, m, f, m', s, e, p⟩ => by
    refine ⟨fun k σ1 H1 => ∃ ρ1 env1 m1, S X.K ρ1 env1 m1 σ1 H1 ∧ whileL t b k env1 m1 = some (f, m') ∧ PoS X.K ρ1 H1 W D f m', ⟨n, ρ, env, m, s, e, p⟩, ?_⟩
    rintro k σ1 H1 ⟨ρ1, env1, m1, s1, e1, p1⟩
    cases k with
    | zero => cases e1
    | succ k =>
      refine sbT s1 e1 p1 fun x m2 ρ2 H2 s2 E2 e2 p2 => ?_
      cases x with
      | false =>
        rw [if_neg (by decide)] at e2 ⊢
        cases e2
        exact p2 ρ2 H2 s2.mem .refl _ s2.env
      | true =>
        rw [if_pos rfl] at e2 ⊢
        refine ⟨fun σ3 H3 => ∃ ρ3 env3 m3, S X.K ρ3 env3 m3 σ3 H3 ∧ whileL t b k env3 m3 = some (f, m') ∧ PoS X.K ρ3 H3 W D f m', fun σ3 H3 h => ⟨k, Nat.lt_succ_self k, h⟩, ?_⟩
        split at e2
        · rename_i env2 m3 hb'
          exact ⟨ρ2, env1, m2, _, _, s2, hb', fun ρ4 H4 M4 E4 σ4 r4 => ⟨ρ4, env2, m3, ⟨M4, r4⟩, e2, p2.mono E4⟩⟩
        · rename_i env2 m3 hb'
          exact ⟨ρ2, env1, m2, _, _, s2, hb', fun ρ4 H4 M4 E4 σ4 r4 => ⟨ρ4, env2, m3, ⟨M4, r4⟩, e2, p2.mono E4⟩⟩
        · rename_i env2 m3 hb'
          cases e2
          exact ⟨ρ2, env1, m2, _, _, s2, hb', fun ρ4 H4 M4 E4 σ4 r4 => p2 ρ4 H4 M4 E4 σ4 r4⟩
        · rename_i r0 n1 n2 n3
          refine ⟨ρ2, env1, m2, f, m', s2, e2, fun ρ4 H4 M4 E4 => ?_⟩
          have pp := p2 ρ4 H4 M4 E4
          cases f with
          | rt v => exact pp
          | ex c fs env2 => exact pp
          | nx env2 => exact absurd e2 (n1 env2 m')
          | ct env2 => exact absurd e2 (n2 env2 m')
          | bk env2 => exact absurd e2 (n3 env2 m')⟩
theorem whileL_t {t : DT} {b : DS} {k : Nat} {env env2 : Ev} {m m1 m2 : Mem} (h1 : t env m = some (.ok true, m1)) (h2 : b env m1 = some (.nx env2, m2)) : whileL t b (k + 1) env m = whileL t b k env2 m2 := by
  show bindS (t env m) env _ = _
  rw [h1]
  simp only [bindS_ok, if_true, h2]
theorem whileL_f {t : DT} {b : DS} {k : Nat} {env : Ev} {m m1 : Mem} (h1 : t env m = some (.ok false, m1)) : whileL t b (k + 1) env m = some (.nx env, m1) := by
  show bindS (t env m) env _ = _
  rw [h1]
  simp
/-! ### dicts: keys ints and texts, or tuples of them -/
def lookZ {κ : Type} [DecidableEq κ] (ks : List (κ × Vl)) (k : κ) : Option Vl := (ks.find? fun p => decide (p.1 = k)).map (·.2)
def putZ {κ : Type} [DecidableEq κ] (ks : List (κ × Vl)) (k : κ) (v : Vl) : List (κ × Vl) := if ks.any (fun p => decide (p.1 = k)) then ks.map fun p => if p.1 = k then (p.1, v) else p else ks ++ [(k, v)]
def keyD : Vl → Option Key
  | .int i => some (.inl i)
  | .str x => some (.inr x)
  | _ => none
def keysD : Vl → Option (List Key)
  | .tup xs => mapO keyD xs
  | _ => none
section
variable {K : PySem.W.Frag} {ρ : Lay} {H : Hp}
theorem rks_val : ∀ {ks : List (Key × Vl)} {vs : List (Key × V)} (k : Key), RKs K ρ H ks vs → (lookZ ks k = none ∧ valV vs k = none) ∨ ∃ x v, lookZ ks k = some x ∧ valV vs k = some v ∧ RV K ρ H x v
  | [], vs, k, h => by
    obtain rfl : vs = [] := h
    exact .inl ⟨rfl, rfl⟩
  | (j, x) :: ks, vs, k, ⟨v, r, e, h1, h2⟩ => by
    subst e
    by_cases q : j = k
    · exact .inr ⟨x, v, by simp [lookZ, q], by simp [valV, q], h1⟩
    · have ih := rks_val k h2
      have e1 : lookZ ((j, x) :: ks) k = lookZ ks k := by simp [lookZ, List.find?_cons, q]
      have e2 : valV ((j, v) :: r) k = valV r k := by simp [valV, List.find?_cons, q]
      rw [e1, e2]
      exact ih
theorem rks_any : ∀ {ks : List (Key × Vl)} {vs : List (Key × V)} (k : Key), RKs K ρ H ks vs → (ks.any fun p => decide (p.1 = k)) = vs.any fun p => decide (p.1 = k)
  | [], vs, k, h => by
    obtain rfl : vs = [] := h
    rfl
  | (j, x) :: ks, vs, k, ⟨v, r, e, h1, h2⟩ => by
    subst e
    rw [List.any_cons, List.any_cons, rks_any k h2]
theorem rks_app : ∀ {ks js : List (Key × Vl)} {vs ws : List (Key × V)}, RKs K ρ H ks vs → RKs K ρ H js ws → RKs K ρ H (ks ++ js) (vs ++ ws)
  | [], js, vs, ws, h, g => by
    obtain rfl : vs = [] := h
    exact g
  | (j, x) :: ks, js, vs, ws, ⟨v, r, e, h1, h2⟩, g => by
    subst e
    exact ⟨v, r ++ ws, rfl, h1, rks_app h2 g⟩
theorem rks_map1 {k : Key} {y : Vl} {w : V} (q : RV K ρ H y w) : ∀ {ks : List (Key × Vl)} {vs : List (Key × V)}, RKs K ρ H ks vs → RKs K ρ H (ks.map fun p => if p.1 = k then (p.1, y) else p) (vs.map fun p => if p.1 = k then (p.1, w) else p)
  | [], vs, h => by
    obtain rfl : vs = [] := h
    exact rfl
  | (j, x) :: ks, vs, ⟨v, r, e, h1, h2⟩ => by
    subst e
    have ih := rks_map1 (k := k) q h2
    by_cases c : j = k
    · simp only [List.map_cons, c, if_true]
      exact ⟨w, _, rfl, q, ih⟩
    · simp only [List.map_cons, c, if_false]
      exact ⟨v, _, rfl, h1, ih⟩
theorem rks_put {ks : List (Key × Vl)} {vs : List (Key × V)} (k : Key) {y : Vl} {w : V} (h : RKs K ρ H ks vs) (q : RV K ρ H y w) : RKs K ρ H (putZ ks k y) (putK vs k w) := by
  unfold putZ putK
  rw [rks_any k h]
  split
  · exact rks_map1 q h
  · exact rks_app h ⟨w, [], rfl, q, rfl⟩
theorem rks_len : ∀ {ks : List (Key × Vl)} {vs : List (Key × V)}, RKs K ρ H ks vs → ks.length = vs.length
  | [], vs, h => by
    obtain rfl : vs = [] := h
    rfl
  | (j, x) :: ks, vs, ⟨v, r, e, h1, h2⟩ => by
    subst e
    rw [List.length_cons, List.length_cons, rks_len h2]
theorem keyD_ok {x : Vl} {v : V} {k : Key} (h : keyD x = some k) (r : RV K ρ H x v) : v = kV k := by
  cases x <;> cases h <;> exact r
/-- the items of a dict -/
def dicD (m : Mem) : Vl → Option (List (Key × Vl))
  | .dic ks => some ks
  | .obj n => (match m[n]? with
    | some (.dic ks) => some ks
    | _ => none)
  | _ => none
theorem dicD_ok {m : Mem} {x : Vl} {v : V} {ks : List (Key × Vl)} (M : RM K ρ m H) (r : RV K ρ H x v) (h : dicD m x = some ks) : ∃ a vs, v = .ref a ∧ H a = some (.dK vs) ∧ RKs K ρ H ks vs := by
  cases x with
  | dic js =>
    cases h
    obtain ⟨a, vs, rfl, _, h1, h2⟩ := r
    exact ⟨a, vs, rfl, h1, h2⟩
  | obj n =>
    unfold dicD at h
    dsimp only at h
    split at h
    · rename_i js hj
      cases h
      obtain ⟨q, rfl, hq⟩ := r
      obtain ⟨vs, h1, h2⟩ := M.at_ _ _ _ hj hq
      exact ⟨q, vs, rfl, h1, h2⟩
    · cases h
  | _ => cases h
/-- a new cell -/
theorem new_cel {m : Mem} {o : HO} {c : Cell} {p : Addr} (M : RM K ρ m H) (hp : H p = none) (hk : cellK o = true) (hc : RC K ρ (upd H p o) p c) : RM K (ρ.cel p) (m ++ [c]) (upd H p o) ∧ Ext ρ H (ρ.cel p) (upd H p o) ∧ RV K (ρ.cel p) (upd H p o) (.obj m.length) (.ref p) := by
  have M1 := M.laid (o := o) hp
  refine ⟨M1.toCel (M.fresh hp) (M.freshz hp) upd_same hk hc, (ext_new hp).toCel ⟨M.fresh hp, M.freshz hp, hp⟩, p, rfl, ?_⟩
  show (ρ.c ++ [p])[m.length]? = some p
  rw [← M.len]
  simp
end
section
variable {X : Cx} {a b e : Expr} {pos pos' p : Pos} {da db : DE} {d : DA}
/-- {} -/
def dNewK : DE := fun _ m => some (.ok (.obj m.length), m ++ [.dic []])
theorem se_dnew : SE X (.Dict [] [] pos) dNewK := ⟨fun W tk => impPE pe_dnewK fun σ H Q ⟨ρ, env, m, z, m', s, e, pp⟩ => by
  cases e
  intro q hq
  obtain ⟨M, E, r⟩ := new_cel (o := .dK []) (c := .dic []) s.mem hq rfl ⟨[], upd_same, rfl⟩
  exact pp _ _ M E _ r⟩
/-- d[k] -/
def ixK : F2 := fun x y m => match dicD m x, keyD y with
  | some ks, some k => (match lookZ ks k with
    | some v => some (v, m)
    | none => none)
  | _, _ => none
theorem se_dget (hu : X.A.units + 1 < cLine) (ha : SE X a da) (hb : SE X b db) (hs : NoSl b) : SE X (.Subscript a b pos) (d2 ixK da db) := ⟨fun W tk => impPE (pe_dget hu (ha.run W tk) (hb.run W tk) hs) fun σ H Q ⟨ρ, env, m, z, m', s, e, p⟩ =>
  bindE s e p fun x m1 ρ1 H1 v s1 E1 r1 e1 p1 => bindE s1 e1 p1 fun y m2 ρ2 H2 u s2 E2 r2 e2 p2 => by
    obtain ⟨w, h1, rfl⟩ := okR_some e2
    unfold ixK at h1
    split at h1
    · rename_i ks k hk hy
      split at h1
      · rename_i vl hv
        cases h1
        obtain ⟨q, vs, rfl, h3, h4⟩ := dicD_ok s2.mem (r1.mono E2) hk
        rcases rks_val k h4 with ⟨h5, _⟩ | ⟨x', v', h5, h6, h7⟩
        · rw [hv] at h5
          cases h5
        · rw [hv] at h5
          cases h5
          exact ⟨q, v', rfl, .inl ⟨vs, k, .inl h3, keyD_ok hy r2, h6.symm⟩, p2 ρ2 H2 s2.mem .refl _ h7⟩
      · cases h1
    · cases h1⟩
/-- k in d -/
def inK (neg : Bool) : F2 := fun x y m => match keyD x, dicD m y with
  | some k, some ks => some (.bl (if neg then !(lookZ ks k).isSome else (lookZ ks k).isSome), m)
  | _, _ => none
theorem din_of {K : PySem.W.Frag} {ρ : Lay} {m : Mem} {H : Hp} {x y : Vl} {v u : V} {ks : List (Key × Vl)} {k : Key} (M : RM K ρ m H) (r1 : RV K ρ H x v) (r2 : RV K ρ H y u) (hk : keyD x = some k) (hd : dicD m y = some ks) : ∃ a o, u = .ref a ∧ DGet H a v o ∧ o.isSome = (lookZ ks k).isSome := by
  obtain ⟨q, vs, rfl, h3, h4⟩ := dicD_ok M r2 hd
  refine ⟨q, _, rfl, .inl ⟨vs, k, .inl h3, keyD_ok hk r1, rfl⟩, ?_⟩
  rcases rks_val k h4 with ⟨h5, h6⟩ | ⟨x', v', h5, h6, h7⟩ <;> rw [h5, h6] <;> rfl
theorem se_din (hu : X.A.units + 1 < cLine) (ha : SE X a da) (hb : SE X b db) (hm : behindInMarks .In b = false := by rfl) : SE X (.Compare a [.In] [b] pos) (d2 (inK false) da db) := ⟨fun W tk => impPE (pe_cmp (pc_din hu (ha.run W tk) (hb.run W tk)) hm) fun σ H Q ⟨ρ, env, m, z, m', s, e, p⟩ =>
  bindE s e p fun x m1 ρ1 H1 v s1 E1 r1 e1 p1 => bindE s1 e1 p1 fun y m2 ρ2 H2 u s2 E2 r2 e2 p2 => by
    obtain ⟨w, h1, rfl⟩ := okR_some e2
    unfold inK at h1
    split at h1
    · rename_i k ks hk hd
      cases h1
      obtain ⟨q, o, rfl, g, h3⟩ := din_of s2.mem (r1.mono E2) r2 hk hd
      exact ⟨q, o, rfl, g, p2 ρ2 H2 s2.mem .refl _ (by rw [h3]; rfl)⟩
    · cases h1⟩
theorem se_dnotin (hu : X.A.units + 1 < cLine) (ha : SE X a da) (hb : SE X b db) (hm : behindInMarks .NotIn b = false := by rfl) : SE X (.Compare a [.NotIn] [b] pos) (d2 (inK true) da db) := ⟨fun W tk => impPE (pe_cmp (pc_dnotin hu (ha.run W tk) (hb.run W tk)) hm) fun σ H Q ⟨ρ, env, m, z, m', s, e, p⟩ =>
  bindE s e p fun x m1 ρ1 H1 v s1 E1 r1 e1 p1 => bindE s1 e1 p1 fun y m2 ρ2 H2 u s2 E2 r2 e2 p2 => by
    obtain ⟨w, h1, rfl⟩ := okR_some e2
    unfold inK at h1
    split at h1
    · rename_i k ks hk hd
      cases h1
      obtain ⟨q, o, rfl, g, h3⟩ := din_of s2.mem (r1.mono E2) r2 hk hd
      exact ⟨q, o, rfl, g, p2 ρ2 H2 s2.mem .refl _ (by rw [h3]; rfl)⟩
    · cases h1⟩
theorem st_of_se {e0 : Expr} {op : CmpOp} {f : F2} (h : SE X (.Compare a [op] [b] pos) (d2 f da db)) (hm : behindInMarks op b = false) : ST X (.Compare a [op] [b] pos) (tB' (d2 f da db)) := st_cmpE h hm
/-- d[k] = v -/
def dPutK (do' dk dv : DE) : DS := fun env m => bindS (dv env m) env fun v m => bindS (do' env m) env fun x m => bindS (dk env m) env fun y m => match x, keyD y with
  | .obj n, some k => (match m[n]? with
    | some (.dic ks) => if ks.length < sizeLine then some (.nx env, m.set n (.dic (putZ ks k v))) else none
    | _ => none)
  | _, _ => none
theorem ss_dput {o i value : Expr} {do' dk dv : DE} (hu : X.A.units + 1 < cLine) (ho : SE X o do') (hi : SE X i dk) (hv : SE X value dv) (hs : swapsWith value (some (.Subscript o i pos')) pos.line X.env = pure false := by rfl) : SS X (.Assign [.Subscript o i pos'] value pos) (dPutK do' dk dv) := ⟨fun W tk =>
  impPS (ps_dput hu (ho.run W tk) (hi.run W tk) (hv.run W tk) hs) fun D σ H ⟨ρ, env, m, f, m', s, e, p⟩ =>
    sbE s e p fun v m1 ρ1 H1 vv s1 E1 r1 e1 p1 => sbE s1 e1 p1 fun x m2 ρ2 H2 u s2 E2 r2 e2 p2 => sbE s2 e2 p2 fun y m3 ρ3 H3 w s3 E3 r3 e3 p3 => by
      split at e3
      · rename_i n k hk
        split at e3
        · rename_i ks hn
          split at e3
          · rename_i hz
            cases e3
            obtain ⟨q, rfl, hq⟩ := r2.mono E3
            obtain ⟨vs, h1, h2⟩ := s3.mem.at_ _ _ _ hn hq
            have rv := (r1.mono E2).mono E3
            have E4 : Ext ρ3 H3 ρ3 (upd H3 q (.dK (putK vs k vv))) := ext_set (List.mem_of_getElem? hq)
            have M4 := s3.mem.put (o := .dK (putK vs k vv)) (c := .dic (putZ ks k v)) hq ⟨_, upd_same, rks_put k (RKs.mono E4 ks h2) (rv.mono E4)⟩
            exact ⟨q, _, rfl, .inl ⟨vs, k, h1, keyD_ok hk r3, by rw [← rks_len h2]; exact hz, rfl⟩, p3 ρ3 _ M4 E4 σ (s3.env.mono E4)⟩
          · cases e3
        · cases e3
      · cases e3⟩
/-- dict(d) -/
def copyK : FB := fun xs m => match xs with
  | [x] => (match dicD m x with
    | some ks => some (.obj m.length, m ++ [.dic ks])
    | none => none)
  | _ => none
theorem call_copy : CallR X (.type "dict") (fun xs H Q => ∃ a kvs, xs = [.ref a] ∧ H a = some (.dK kvs) ∧ ∀ p, H p = none → Q (.ref p) (upd H p (.dK kvs))) := by
  intro pins s σ H xs us Q I r hh
  obtain ⟨q, kvs, rfl, hd, k⟩ := hh
  obtain ⟨u, rfl, ru⟩ := vals1 r
  obtain rfl : u = Value.ref q := ru
  exact d_copyOf I (.inl hd) fun p' s' hp I' => ⟨.ref p', _, I', rfl, k p' hp⟩
theorem scf_copy {K : PySem.W.Frag} : SCF K copyK (fun xs H Q => ∃ a kvs, xs = [.ref a] ∧ H a = some (.dK kvs) ∧ ∀ p, H p = none → Q (.ref p) (upd H p (.dK kvs))) := fun ρ m H xs vs z m' Q M a e k => by
  unfold copyK at e
  split at e
  · rename_i x
    split at e
    · rename_i ks hk
      cases e
      obtain ⟨v, s, rfl, h1, h2⟩ := a
      subst h2
      obtain ⟨q, ws, rfl, h3, h4⟩ := dicD_ok M h1 hk
      refine ⟨q, ws, rfl, h3, fun p hp => ?_⟩
      obtain ⟨M', E', r'⟩ := new_cel (o := .dK ws) (c := .dic ks) M hp rfl ⟨ws, upd_same, RKs.mono (ext_new hp) ks h4⟩
      exact k _ _ _ M' E' r'
    · cases e
  · cases e
theorem se_dcopy {es : List Expr} (hg : Gl X "dict") (hm : X.mg "dict" = none) (ha : SA X (e :: es) d) (he : starEach (e :: es) X.env = (false, eval e X.env) :: starEach es X.env := by rfl) (hpl : (backTo pos (starEach es X.env)).any (·.1) = false := by rfl) : SE X (.Call (.Name "dict" p) (e :: es) [] pos) (dB copyK d) := se_callTy call_copy scf_copy hg hm (by decide +kernel) ha (by decide) (by decide) he hpl
end
end Z
namespace Z
open PySem PySem.Spec PyProof.Rows L2
theorem u1 {k : Nat} {A : Around} (hr : Room k A) : A.units + 1 < cLine := by have := hr.un; omega
/-! ### repr of a dict of flat values -/
def encP : Key → PyData
  | .inl i => .int i
  | .inr x => .str x
def flatP : Vl → Option PyData
  | .non => some .none
  | .bl b => some (.bool b)
  | .int i => some (.int i)
  | .str x => some (.str x)
  | _ => none
def flatPV : V → Option PyData
  | .non => some .none
  | .bl b => some (.bool b)
  | .int i => some (.int i)
  | .str x => some (.str x)
  | _ => none
def kvsP : List (Key × Vl) → Option (List (PyData × PyData))
  | [] => some []
  | (k, x) :: r => (match flatP x, kvsP r with
    | some d, some ds => some ((encP k, d) :: ds)
    | _, _ => none)
def kvsPV : List (Key × V) → Option (List (PyData × PyData))
  | [] => some []
  | (k, x) :: r => (match flatPV x, kvsPV r with
    | some d, some ds => some ((encP k, d) :: ds)
    | _, _ => none)
theorem flatP_ok {K : PySem.W.Frag} {ρ : Lay} {H : Hp} {x : Vl} {v : V} {d : PyData} (h : flatP x = some d) (r : RV K ρ H x v) : flatPV v = some d := by
  cases x <;> cases h <;> (rw [show v = _ from r]; rfl)
theorem kvsP_ok {K : PySem.W.Frag} {ρ : Lay} {H : Hp} : ∀ {ks : List (Key × Vl)} {vs : List (Key × V)} {D : List (PyData × PyData)}, kvsP ks = some D → RKs K ρ H ks vs → kvsPV vs = some D
  | [], vs, D, h, r => by
    obtain rfl : vs = [] := r
    exact h
  | (k, x) :: ks, vs, D, h, ⟨v, r, e, h1, h2⟩ => by
    subst e
    unfold kvsP at h
    split at h
    · rename_i d ds hd hds
      cases h
      unfold kvsPV
      rw [flatP_ok hd h1, kvsP_ok hds h2]
    · cases h
theorem flatPV_val {v : V} {u : Value} {d : PyData} (h : flatPV v = some d) (r : RelV v u) : PyProof.V.Flat u d := by
  cases v with
  | non => cases h; cases r; exact PyProof.V.Flat.none
  | bl b => cases h; cases r; exact fun _ => .bool b
  | int i => cases h; obtain ⟨t, rfl⟩ := r; exact PyProof.V.Flat.int i t
  | str x => cases h; obtain ⟨t, rfl⟩ := r; exact PyProof.V.Flat.str x t
  | _ => cases h
theorem flatPairs_of : ∀ {kvs : List (Key × V)} {vs : List (Key × Value)} {D : List (PyData × PyData)}, kvsPV kvs = some D → L2.KV kvs vs → PyProof.V.FlatPairs encP vs D
  | [], _, _, h, .nil => by
    cases h
    exact .nil
  | (k, v) :: kvs, _, D, h, .cons (b := (k', u)) hp r => by
    obtain ⟨e, ru⟩ := hp
    cases e
    unfold kvsPV at h
    split at h
    · rename_i d ds hd hds
      cases h
      exact .cons (flatPV_val hd ru) (flatPairs_of hds r)
    · cases h
theorem encP_reads {h : Heap} {P : Program} {w : World} (k : Key) (key : Value) (e : (L2.mixKind P w).is k key = true) : Reads h key (encP k) [] := by
  rcases keyIs_shape e with ⟨i, t, rfl, rfl⟩ | ⟨x, t, rfl, rfl⟩
  · exact .int i t
  · exact .str x t
def reprK : FB := fun xs m => match xs with
  | [x] => (match dicD m x with
    | some ks => (match kvsP ks with
      | some D => if (PyData.showable (.dict D) && decide ((PyData.dict D).depth ≤ 60) && decide ((PyData.dict D).shown.length ≤ sizeLine)) = true then some (.str (PyData.dict D).shown, m) else none
      | none => none)
    | none => none)
  | _ => none
theorem call_reprK {X : Cx} (hr : Room 0 X.A) : CallR X (.builtin "repr") (fun xs H Q => ∃ a kvs D, xs = [.ref a] ∧ H a = some (.dK kvs) ∧ kvsPV kvs = some D ∧ PyData.showable (.dict D) = true ∧ (PyData.dict D).depth ≤ 60 ∧ (PyData.dict D).shown.length ≤ sizeLine ∧ Q (.str (PyData.dict D).shown) H) := by
  intro pins s σ H xs us Q I r hh
  obtain ⟨a, kvs, D, rfl, hd, hD, h1, h3, h4, q⟩ := hh
  obtain ⟨u, rfl, ru⟩ := vals1 r
  obtain rfl : u = Value.ref a := ru
  obtain ⟨z, hsys, vs, rel, dd⟩ := dk_of I.hok hd
  have rd := PyProof.V.reads_dictOf (enc := encP) (fun k key e => encP_reads k key e) dd ((flatPairs_of hD rel).pairsRead _)
  have huu := hr.units
  refine repr_of_reads' rd h1 (fun _ hm => ?_) hr.gd (by omega) (fun _ _ e => e) (fun h' t tk hk => ⟨.str _, H, I.kept hk, ⟨_, rfl⟩, q⟩) h4
  rw [List.mem_singleton] at hm
  rw [← hm] at hsys
  simp at hsys
theorem scf_reprK {K : PySem.W.Frag} : SCF K reprK (fun xs H Q => ∃ a kvs D, xs = [.ref a] ∧ H a = some (.dK kvs) ∧ kvsPV kvs = some D ∧ PyData.showable (.dict D) = true ∧ (PyData.dict D).depth ≤ 60 ∧ (PyData.dict D).shown.length ≤ sizeLine ∧ Q (.str (PyData.dict D).shown) H) := fun ρ m H xs vs z m' Q M a e k => by
  unfold reprK at e
  split at e
  · rename_i x
    split at e
    · rename_i ks hk
      split at e
      · rename_i D hD
        split at e
        · rename_i c
          cases e
          simp only [Bool.and_eq_true, decide_eq_true_eq] at c
          obtain ⟨v, s, rfl, h1, h2⟩ := a
          subst h2
          obtain ⟨q, ws, rfl, h3, h4⟩ := dicD_ok M h1 hk
          exact ⟨q, ws, D, rfl, h3, kvsP_ok hD h4, c.1.1, c.1.2, c.2, k ρ H _ M .refl rfl⟩
        · cases e
      · cases e
    · cases e
  · cases e
section
variable {X : Cx} {e : Expr} {es : List Expr} {p pos apos : Pos} {de : DE} {d dk : DA}
theorem se_reprK (hr : Room 0 X.A) (hg : Gl X "repr") (hm : X.mg "repr" = none) (ha : SA X (e :: es) d) (he : starEach (e :: es) X.env = (false, eval e X.env) :: starEach es X.env := by rfl) (hpl : (backTo pos (starEach es X.env)).any (·.1) = false := by rfl) :
    SE X (.Call (.Name "repr" p) (e :: es) [] pos) (dB reprK d) := se_callB (call_reprK hr) scf_reprK hg hm (by decide +kernel) ha (by decide) (by decide) he hpl
/-! ### *xs in a display or a call -/
def dStar (de : DE) (d : DA) : DA := fun env m => bindR (de env m) fun x m => match seqD m x with
  | some xs => bindR (d env m) fun ys m => some (.ok (xs ++ ys), m)
  | none => none
theorem sa_star (he : SE X e de) (hr : SA X es d) (hs : starEach (.Starred e p :: es) X.env = (true, eval e X.env) :: starEach es X.env := by rfl) : SA X (.Starred e p :: es) (dStar de d) := ⟨fun W tk =>
  impPA (StX.pa_star (he.run W tk) (hr.run W tk) hs) fun σ H Q ⟨ρ, env, m, z, m', s, e, pp⟩ => bindE s e pp fun x m1 ρ1 H1 v s1 E1 r1 e1 p1 => by
    split at e1
    · rename_i xs hx
      obtain ⟨q, vs, rfl, h1, h2⟩ := seqD_ok s1.mem r1 hx
      refine ⟨q, vs, rfl, h1.symm, bindA s1 e1 p1 fun ys m2 ρ2 H2 ws s2 E2 r2 e2 p2 => ?_⟩
      cases e2
      exact p2 ρ2 H2 s2.mem .refl _ ((h2.mono E2).append r2)
    · cases e1⟩
end
section
variable {X : Cx} {o : Expr} {kws : List Keyword} {pos apos : Pos} {de : DE} {d dk : DA} {c mn : Str} {k n : Nat} {f : Addr} {ks : List Str} {gz : List Vl → List Vl → List Vl} {g : FD}
/-- o.m(k = e, ..) -/
theorem se_methK0 {pl : Sem Bool} (he : SE X o de) (hc : Cls X.K (He.ga X.K c)) (hm : Meth X.K (He.ga X.K c) mn f) (F : Fz X.prog X.w X.K X.mg X.base k f 1 ks gz g) (hr : Room k X.A) (hkw : SK X kws dk)
    (hall : (backToKw pos (keywordEach kws X.env)).all (·.1.isSome) = true := by rfl) (hks : (backToKw pos (keywordEach kws X.env)).filterMap (·.1) = ks := by rfl)
    (hpl : ((backTo pos (starEach [] X.env)).any (·.1) || (backToKw pos (keywordEach kws X.env)).any (·.1.isNone)) = false := by rfl)
    (ht : eval (.Call (.Attribute o mn apos) [] kws pos) X.env = (do
      let ov ← eval o X.env
      standAt apos.atName
      let (f, first) ← holding [ov] (getMethod ov mn pl)
      callWith pos f first (backTo pos (starEach [] X.env)) (backToKw pos (keywordEach kws X.env))) := by rfl) :
    SE X (.Call (.Attribute o mn apos) [] kws pos) (dMeth c mn 0 ks.length gz g de dNone dk) := ⟨fun W tk => ⟨fun pins s σ H Q I h => by
  obtain ⟨ρ, env, m, z, m', st, ee, pp⟩ := h
  have h' : rdE X.K W de σ H (fun v H1 => ∃ a dx gs, v = .ref a ∧ H1 a = some (.ins (He.ga X.K c) dx gs) ∧ gs.lookup mn = none ∧ rdA X.K W dk σ H1 fun zs H3 => ∃ ρ1 m1 xs ys, RM X.K ρ1 m1 H3 ∧ RVs X.K ρ1 H3 xs [.ref a] ∧ RVs X.K ρ1 H3 ys zs ∧ xs.length = 1 ∧ ys.length = ks.length ∧ g (gz xs ys) m1 = some (z, m') ∧ Po X.K ρ1 H3 (RV X.K) (fun c dd H' => W c dd σ H') Q z m') :=
    bindE st ee pp fun x m1 ρ1 H1 v s1 E1 r1 e1 p1 => by
      split at e1
      · rename_i c' fs hi
        split at e1
        · rename_i hcc
          rw [Bool.and_eq_true, decide_eq_true_eq, Option.isNone_iff_eq_none] at hcc
          obtain ⟨rfl, hl⟩ := hcc
          obtain ⟨a, dx, gs, rfl, h1, h2⟩ := insD_ok s1.mem r1 hi
          have e1' : bindR (dk env m1) (fun ys m => if ([] : List Vl).length = 0 ∧ ys.length = ks.length then g (gz [x] ys) m else none) = some (z, m') := e1
          refine ⟨a, dx, gs, rfl, h1, h2.none hl, bindA s1 e1' p1 fun ys m3 ρ3 H3 zs s3 E3 r3 e3 p3 => ?_⟩
          split at e3
          · rename_i hn
            exact ⟨ρ3, m3, [x], ys, s3.mem, ⟨_, _, rfl, r1.mono E3, rfl⟩, r3, rfl, hn.2, e3, p3⟩
          · cases e3
        · cases e1
      · cases e1
  refine PySem.W.methodCall_KW (pl := pl) (thn ((he.run W tk).run pins s σ H _ I h') fun u s1 ⟨x, H1, I1, rx, a, dx, fs, ex, ea, l, q⟩ => ?_) ht
  subst ex
  obtain rfl : u = Value.ref a := rx
  refine getmeth_ok I1 ea hc hm l ?_
  refine PySem.W.callWith_KW0 (first := [.ref a]) (h₀ := X.base) I.ok.mod.kin hm.kp hall (thn ((hkw.run W tk).run pos pins s1 σ H1 _ I1 q) fun ws s3 ⟨zs, H3, I3, rz, q3⟩ => ⟨I3.kIn, ?_⟩) hpl
  rw [hks]
  obtain ⟨ρ1, m1, xs, ys, M1, rx, ry, hn, hy, e1, p1⟩ := q3
  exact F.run hr tk (us := [.ref a]) (vs := [.ref a]) I3 (.cons rfl .nil) rz M1 rx ry hn hy e1 p1⟩⟩
end
/-! ### what these compute -/
@[simp] theorem dStar_ap {de : DE} {d : DA} {env : Ev} {m : Mem} : dStar de d env m = bindR (de env m) fun x m => match seqD m x with
  | some xs => bindR (d env m) fun ys m => some (.ok (xs ++ ys), m)
  | none => none := rfl
@[simp] theorem dNewK_ap {env : Ev} {m : Mem} : dNewK env m = some (.ok (.obj m.length), m ++ [.dic []]) := rfl
theorem dicD_obj {m : Mem} {n : Nat} {ks : List (Key × Vl)} (h : m[n]? = some (.dic ks)) : dicD m (.obj n) = some ks := by
  unfold dicD
  simp only [h]
theorem ixK_obj {m : Mem} {n : Nat} {ks : List (Key × Vl)} {y v : Vl} {k : Key} (h : m[n]? = some (.dic ks)) (hk : keyD y = some k) (hv : lookZ ks k = some v) : ixK (.obj n) y m = some (v, m) := by
  unfold ixK
  simp only [dicD_obj h, hk, hv]
theorem inK_obj {neg : Bool} {m : Mem} {n : Nat} {ks : List (Key × Vl)} {y : Vl} {k : Key} (h : m[n]? = some (.dic ks)) (hk : keyD y = some k) : inK neg y (.obj n) m = some (.bl (if neg then !(lookZ ks k).isSome else (lookZ ks k).isSome), m) := by
  unfold inK
  simp only [dicD_obj h, hk]
@[simp] theorem dPutK_ap {do' dk dv : DE} {env : Ev} {m : Mem} : dPutK do' dk dv env m = bindS (dv env m) env fun v m => bindS (do' env m) env fun x m => bindS (dk env m) env fun y m => match x, keyD y with
  | .obj n, some k => (match m[n]? with
    | some (.dic ks) => if ks.length < sizeLine then some (.nx env, m.set n (.dic (putZ ks k v))) else none
    | _ => none)
  | _, _ => none := rfl
end Z
namespace Z
open PySem PySem.Spec PyProof.Rows L2
/-! ### {k: v, ..} -/
def pairsD : List (DE × DE) → Ev → Mem → Option (R (List (Key × Vl)) × Mem)
  | [], _, m => some (.ok [], m)
  | (dk, dv) :: r, env, m => bindR (dk env m) fun k m => bindR (dv env m) fun v m => bindR (pairsD r env m) fun ps m => match keyD k with
    | some k => some (.ok ((k, v) :: ps), m)
    | none => none
def mergeZ (ks more : List (Key × Vl)) : List (Key × Vl) := more.foldl (fun acc p => putZ acc p.1 p.2) ks
theorem rks_merge {K : PySem.W.Frag} {ρ : Lay} {H : Hp} : ∀ {more : List (Key × Vl)} {mv : List (Key × V)} {ks : List (Key × Vl)} {vs : List (Key × V)}, RKs K ρ H more mv → RKs K ρ H ks vs → RKs K ρ H (mergeZ ks more) (mergeK vs mv)
  | [], mv, ks, vs, h, g => by
    obtain rfl : mv = [] := h
    exact g
  | (k, x) :: more, mv, ks, vs, ⟨v, r, e, h1, h2⟩, g => by
    subst e
    show RKs K ρ H (mergeZ (putZ ks k x) more) (mergeK (putK vs k v) r)
    exact rks_merge h2 (rks_put k g h1)
structure SPs (X : Cx) (pos : Pos) (keys : List (Option Expr)) (values : List Expr) (ds : List (DE × DE)) : Prop where
  run : ∀ W, Takes X W → PPs X pos keys values (ds.map fun p => (rdE X.K W p.1, rdE X.K W p.2))
section
variable {X : Cx} {pos : Pos} {k v : Expr} {ks : List (Option Expr)} {vs : List Expr} {dk dv : DE} {ds : List (DE × DE)}
theorem sps_nil : SPs X pos [] [] [] := ⟨fun W tk => pps_nil⟩
theorem sps_cons (hk : SE X k dk) (hv : SE X v dv) (hr : SPs X pos ks vs ds) : SPs X pos (some k :: ks) (v :: vs) ((dk, dv) :: ds) := ⟨fun W tk => pps_cons (hk.run W tk) (hv.run W tk) (hr.run W tk)⟩
theorem tPairs_of {K : PySem.W.Frag} {W : WX} {σ : L2.St} : ∀ {ds : List (DE × DE)} {ρ : Lay} {env : Ev} {m m' : Mem} {H : Hp} {r : R (List (Key × Vl))} {Q : List (V × V) → Hp → Prop}, S K ρ env m σ H → pairsD ds env m = some (r, m') →
    (∀ ρ' H', S K ρ' env m' σ H' → Ext ρ H ρ' H' → match r with
      | .ok ps => ∀ mv, RKs K ρ' H' ps mv → Q (mv.map fun p => (kV p.1, p.2)) H'
      | .ex c fs => ∀ dd, XD K ρ' H' dd fs → W (.ref (He.ga K c)) dd σ H') → tPairs (ds.map fun p => (rdE K W p.1, rdE K W p.2)) σ H Q
  | [], ρ, env, m, m', H, r, Q, s, e, p => by
    cases e
    exact p ρ H s .refl [] rfl
  | (dk, dv) :: ds, ρ, env, m, m', H, r, Q, s, e, p => by
    unfold pairsD at e
    show rdE K W dk σ H fun x H1 => rdE K W dv σ H1 fun y H2 => tPairs (ds.map fun p => (rdE K W p.1, rdE K W p.2)) σ H2 fun ps H3 => Q ((x, y) :: ps) H3
    unfold bindR at e
    split at e
    · cases e
    · rename_i x m1 h0
      refine goE s h0 fun ρ1 H1 vk s1 E1 r1 => ?_
      dsimp only at e
      split at e
      · cases e
      · rename_i y m2 h1
        refine goE s1 h1 fun ρ2 H2 vv s2 E2 r2 => ?_
        split at e
        · cases e
        · rename_i ps m3 h2
          split at e
          · rename_i kk hk
            cases e
            refine tPairs_of s2 h2 fun ρ3 H3 s3 E3 => ?_
            have q := p ρ3 H3 s3 ((E1.trans E2).trans E3)
            intro mv rmv
            have e1 := keyD_ok hk r1
            subst e1
            exact q ((kk, vv) :: mv) ⟨vv, mv, rfl, r2.mono E3, rmv⟩
          · cases e
        · rename_i c fs m3 h2
          cases e
          refine tPairs_of s2 h2 fun ρ3 H3 s3 E3 => ?_
          exact p ρ3 H3 s3 ((E1.trans E2).trans E3)
      · rename_i c fs m2 h1
        cases e
        exact exE s1 h1 fun ρ2 H2 dd s2 E2 x => p ρ2 H2 s2 (E1.trans E2) dd x
    · rename_i c fs m1 h0
      cases e
      exact exE s h0 fun ρ1 H1 dd s1 E1 x => p ρ1 H1 s1 E1 dd x
def dDisp (ds : List (DE × DE)) : DE := fun env m => bindR (pairsD ds env (m ++ [.dic []])) fun ps m' => if ps.length ≤ 15 then (match m'[m.length]? with
  | some (.dic []) => some (.ok (.obj m.length), m'.set m.length (.dic (mergeZ [] ps)))
  | _ => none) else none
theorem se_disp (h : SPs X pos ks vs ds) (hall : ks.all (·.isSome) = true) (hl : ks.length = vs.length) (h0 : ks ≠ []) (h15 : ks.length ≤ 15) : SE X (.Dict ks vs pos) (dDisp ds) := ⟨fun W tk =>
  impPE (pe_disp (h.run W tk) hall hl h0 h15) fun σ H Q ⟨ρ, env, m, z, m', s, e, pp⟩ q hq => by
    obtain ⟨M1, E1, r1⟩ := new_cel (o := .dK []) (c := .dic []) s.mem hq rfl ⟨[], upd_same, rfl⟩
    have s1 : S X.K (ρ.cel q) env (m ++ [.dic []]) σ (upd H q (.dK [])) := s.to E1 M1
    unfold dDisp bindR at e
    split at e
    · cases e
    · rename_i ps m2 h0
      dsimp only at e
      split at e
      · rename_i hz
        split at e
        · rename_i hm
          cases e
          refine tPairs_of s1 h0 fun ρ2 H2 s2 E2 => ?_
          intro mv rmv
          obtain ⟨q', hq', hc⟩ := r1.mono E2
          cases hq'
          obtain ⟨us, h1, h2⟩ := s2.mem.at_ _ _ _ hm hc
          obtain rfl : us = [] := h2
          have hl2 := rks_len rmv
          have E3 : Ext ρ2 H2 ρ2 (upd H2 q (.dK (mergeK [] mv))) := ext_set (List.mem_of_getElem? hc)
          have M3 := s2.mem.put (o := .dK (mergeK [] mv)) (c := .dic (mergeZ [] ps)) hc ⟨_, upd_same, RKs.mono E3 _ (rks_merge rmv (show RKs X.K ρ2 H2 [] [] from rfl))⟩
          exact ⟨h1, mv, rfl, by rw [← hl2]; exact hz, pp ρ2 _ M3 ((E1.trans E2).trans E3) _ ⟨q, rfl, hc⟩⟩
        · cases e
      · cases e
    · rename_i c fs m2 h0
      cases e
      exact tPairs_of s1 h0 fun ρ2 H2 s2 E2 dd x => pp ρ2 H2 s2.mem (E1.trans E2) dd x⟩
end
@[simp] theorem dDisp_ap {ds : List (DE × DE)} {env : Ev} {m : Mem} : dDisp ds env m = bindR (pairsD ds env (m ++ [.dic []])) fun ps m' => if ps.length ≤ 15 then (match m'[m.length]? with
  | some (.dic []) => some (.ok (.obj m.length), m'.set m.length (.dic (mergeZ [] ps)))
  | _ => none) else none := rfl
@[simp] theorem pairsD_nil {env : Ev} {m : Mem} : pairsD [] env m = some (.ok [], m) := rfl
@[simp] theorem pairsD_cons {dk dv : DE} {r : List (DE × DE)} {env : Ev} {m : Mem} : pairsD ((dk, dv) :: r) env m = bindR (dk env m) fun k m => bindR (dv env m) fun v m => bindR (pairsD r env m) fun ps m => match keyD k with
    | some k => some (.ok ((k, v) :: ps), m)
    | none => none := rfl
end Z
namespace K09
open PySem PySem.Spec PyProof.Rows L2 Z
def top (i : Nat) : Stmt := PySem.Challenge.pw_lateflushes_k09_filters_bound.main.body.getD i (.Pass ⟨0, 0, 0, 0⟩)
abbrev s_law_start : Stmt := (top 23)
abbrev s_law_draw : Stmt := (top 24)
abbrev s_law_pick : Stmt := (top 25)
abbrev s_Filter_init : Stmt := (inClass (top 20) 0)
abbrev s_Filter_everything : Stmt := (inClass (top 20) 1)
abbrev s_is_column : Stmt := (top 12)
abbrev s_Column_init : Stmt := (inClass (top 21) 0)
abbrev s_Filter_invert : Stmt := (inClass (top 20) 5)
abbrev s_is_name : Stmt := (top 11)
abbrev s_is_value : Stmt := (top 10)
abbrev s_Column_compared : Stmt := (inClass (top 21) 3)
abbrev s_Column_ne : Stmt := (inClass (top 21) 2)
abbrev s_Column_eq : Stmt := (inClass (top 21) 1)
abbrev s_law_leaf : Stmt := (top 28)
abbrev s_law_inverted : Stmt := (top 29)
abbrev s_parts_of : Stmt := (top 16)
abbrev s_Filter_joined : Stmt := (inClass (top 20) 2)
abbrev s_Filter_and : Stmt := (inClass (top 20) 3)
abbrev s_Filter_or : Stmt := (inClass (top 20) 4)
abbrev s_law_chosen : Stmt := (top 30)
abbrev s_law_cell : Stmt := (top 27)
abbrev s_law_once : Stmt := (top 33)
abbrev s_law_pairs : Stmt := (top 32)
abbrev s_law_turned : Stmt := (top 26)
abbrev s_compared_in : Stmt := (top 17)
abbrev s_Filter_bare_pairs : Stmt := (inClass (top 20) 11)
abbrev s_Filter_parameters : Stmt := (inClass (top 20) 10)
abbrev s_replaced_in : Stmt := (top 18)
abbrev s_Filter_bound : Stmt := (inClass (top 20) 13)
abbrev s_law_bound : Stmt := (top 35)
abbrev s_law_put_in : Stmt := (top 34)
abbrev s_Filter_eq : Stmt := (inClass (top 20) 6)
abbrev s_is_row : Stmt := (top 13)
abbrev s_Filter_look_bound : Stmt := (inClass (top 20) 9)
abbrev s_takes_cells : Stmt := (top 19)
abbrev s_Filter_takes : Stmt := (inClass (top 20) 8)
abbrev s_Filter_call : Stmt := (inClass (top 20) 7)
abbrev s_law_takes : Stmt := (top 31)
abbrev s_law : Stmt := (top 36)
def csZ : List Str := ["Filter", "Column"]
def tsZ : List TD := [.c "Filter", .c "Column", .b "NoneType", .b "bool", .b "int", .b "str", .b "tuple", .b "list"]
def kitL : List (TD × TD × Bool) := [(.b "NoneType", .c "Filter", false), (.b "NoneType", .b "bool", false), (.b "NoneType", .b "int", false), (.b "NoneType", .b "str", false), (.b "NoneType", .b "tuple", false), (.b "bool", .c "Filter", false), (.b "bool", .b "bool", true), (.b "bool", .b "int", true), (.b "bool", .b "str", false), (.b "bool", .b "tuple", false), (.b "int", .c "Filter", false), (.b "int", .b "bool", false), (.b "int", .b "int", true), (.b "int", .b "str", false), (.b "int", .b "tuple", false), (.b "str", .c "Filter", false), (.b "str", .b "bool", false), (.b "str", .b "int", false), (.b "str", .b "str", true), (.b "str", .b "tuple", false), (.b "tuple", .c "Filter", false), (.b "tuple", .b "bool", false), (.b "tuple", .b "int", false), (.b "tuple", .b "str", false), (.b "tuple", .b "tuple", true), (.b "list", .c "Filter", false), (.b "list", .b "bool", false), (.b "list", .b "int", false), (.b "list", .b "str", false), (.b "list", .b "tuple", false), (.b "dict", .c "Filter", false), (.b "dict", .b "bool", false), (.b "dict", .b "int", false), (.b "dict", .b "str", false), (.b "dict", .b "tuple", false), (.c "Filter", .c "Filter", true), (.c "Filter", .b "bool", false), (.c "Filter", .b "int", false), (.c "Filter", .b "str", false), (.c "Filter", .b "tuple", false), (.c "Column", .c "Filter", false), (.c "Column", .b "bool", false), (.c "Column", .b "int", false), (.c "Column", .b "str", false), (.c "Column", .b "tuple", false)]
def esZ : List Str := ["BadRow", "BadColumn", "BadValue", "BadFilter", "Unbound", "TooMany"]
def exL : List (Str × Str × Bool) := [("BadRow", "Unbound", false), ("BadColumn", "Unbound", false), ("BadValue", "Unbound", false), ("BadFilter", "Unbound", false), ("Unbound", "Unbound", true), ("TooMany", "Unbound", false)]
def fileZ : Str := "/claim/cut.py"
def e0_BadColumn : EZ := ⟨fun K => He.ma K (He.ga K "BadColumn") "__init__", fun K => He.ga K "BadColumn", "BadColumn.__init__", defArgs (inClass (top 2) 0), defBody (inClass (top 2) 0), defScope (inClass (top 2) 0), fileZ⟩
def e0_BadValue : EZ := ⟨fun K => He.ma K (He.ga K "BadValue") "__init__", fun K => He.ga K "BadValue", "BadValue.__init__", defArgs (inClass (top 3) 0), defBody (inClass (top 3) 0), defScope (inClass (top 3) 0), fileZ⟩
def e0_BadFilter : EZ := ⟨fun K => He.ma K (He.ga K "BadFilter") "__init__", fun K => He.ga K "BadFilter", "BadFilter.__init__", defArgs (inClass (top 4) 0), defBody (inClass (top 4) 0), defScope (inClass (top 4) 0), fileZ⟩
def e0_TooMany : EZ := ⟨fun K => He.ma K (He.ga K "TooMany") "__init__", fun K => He.ga K "TooMany", "TooMany.__init__", defArgs (inClass (top 6) 0), defBody (inClass (top 6) 0), defScope (inClass (top 6) 0), fileZ⟩
def e0_Unbound : EZ := ⟨fun K => He.ma K (He.ga K "Unbound") "__init__", fun K => He.ga K "Unbound", "Unbound.__init__", defArgs (inClass (top 5) 0), defBody (inClass (top 5) 0), defScope (inClass (top 5) 0), fileZ⟩
def e0_BadRow : EZ := ⟨fun K => He.ma K (He.ga K "BadRow") "__init__", fun K => He.ga K "BadRow", "BadRow.__init__", defArgs (inClass (top 1) 0), defBody (inClass (top 1) 0), defScope (inClass (top 1) 0), fileZ⟩
structure FX (P : Program) (K : PySem.W.Frag) (mg : Str → Option Value) : Prop where
  g_law : mg "law" = some (.ref (He.ga K "law"))
  f_len : mg "len" = none
  f_min : mg "min" = none
  f_max : mg "max" = none
  f_range : mg "range" = none
  f_int : mg "int" = none
  f_abs : mg "abs" = none
  f_enumerate : mg "enumerate" = none
  g__law_start : mg "_law_start" = some (.ref (He.ga K "_law_start"))
  g__law_draw : mg "_law_draw" = some (.ref (He.ga K "_law_draw"))
  g__law_pick : mg "_law_pick" = some (.ref (He.ga K "_law_pick"))
  a_form_Filter : ClsF K ["Filter"] "form"
  n_Filter : Mk K (He.ga K "Filter") (He.ma K (He.ga K "Filter") "__init__")
  g_Filter : mg "Filter" = some (.ref (He.ga K "Filter"))
  sm_Filter_everything : SMd K "Filter" "everything"
  f_str : mg "str" = none
  ins : InsA K csZ
  kit : KitOk K (kitT kitL)
  f_isinstance : mg "isinstance" = none
  g_is_column : mg "is_column" = some (.ref (He.ga K "is_column"))
  f_super : mg "super" = none
  g_BadColumn : mg "BadColumn" = some (.ref (He.ga K "BadColumn"))
  e_BadColumn : Nonempty (ErrI P K (He.ga K "BadColumn") "column")
  a_name_Column : ClsF K ["Column"] "name"
  n_Column : Mk K (He.ga K "Column") (He.ma K (He.ga K "Column") "__init__")
  g_Column : mg "Column" = some (.ref (He.ga K "Column"))
  k_LETTERS : GV K mg "LETTERS" (.str "abcdefghijklmnopqrstuvwxyz")
  f_all : mg "all" = none
  g_is_name : mg "is_name" = some (.ref (He.ga K "is_name"))
  k_TOP : GV K mg "TOP" (.int 999)
  f_bool : mg "bool" = none
  g_is_value : mg "is_value" = some (.ref (He.ga K "is_value"))
  g_BadValue : mg "BadValue" = some (.ref (He.ga K "BadValue"))
  e_BadValue : Nonempty (ErrI P K (He.ga K "BadValue") "value")
  c_Column : Cls K (He.ga K "Column")
  m_Column_compared : Meth K (He.ga K "Column") "compared" (He.ma K (He.ga K "Column") "compared")
  o_Filter___invert__ : OwnM K "Filter" "__invert__" (He.ma K (He.ga K "Filter") "__invert__") tsZ
  o_Column___ne__ : OwnM K "Column" "__ne__" (He.ma K (He.ga K "Column") "__ne__") tsZ
  o_Column___eq__ : OwnM K "Column" "__eq__" (He.ma K (He.ga K "Column") "__eq__") tsZ
  g__law_leaf : mg "_law_leaf" = some (.ref (He.ga K "_law_leaf"))
  g__law_inverted : mg "_law_inverted" = some (.ref (He.ga K "_law_inverted"))
  g_BadFilter : mg "BadFilter" = some (.ref (He.ga K "BadFilter"))
  e_BadFilter : Nonempty (ErrI P K (He.ga K "BadFilter") "thing")
  g_parts_of : mg "parts_of" = some (.ref (He.ga K "parts_of"))
  k_PARTS : GV K mg "PARTS" (.int 8)
  g_TooMany : mg "TooMany" = some (.ref (He.ga K "TooMany"))
  e_TooMany : Nonempty (ErrI P K (He.ga K "TooMany") "limit")
  c_Filter : Cls K (He.ga K "Filter")
  m_Filter_joined : Meth K (He.ga K "Filter") "joined" (He.ma K (He.ga K "Filter") "joined")
  b_Filter___and__ : BinC K "Filter" .BitAnd (He.ma K (He.ga K "Filter") "__and__")
  b_Filter___or__ : BinC K "Filter" .BitOr (He.ma K (He.ga K "Filter") "__or__")
  g__law_chosen : mg "_law_chosen" = some (.ref (He.ga K "_law_chosen"))
  g__law_cell : mg "_law_cell" = some (.ref (He.ga K "_law_cell"))
  g__law_once : mg "_law_once" = some (.ref (He.ga K "_law_once"))
  g__law_pairs : mg "_law_pairs" = some (.ref (He.ga K "_law_pairs"))
  f_list : mg "list" = none
  g__law_turned : mg "_law_turned" = some (.ref (He.ga K "_law_turned"))
  f_repr : mg "repr" = none
  g_compared_in : mg "compared_in" = some (.ref (He.ga K "compared_in"))
  m_Filter_bare_pairs : Meth K (He.ga K "Filter") "bare_pairs" (He.ma K (He.ga K "Filter") "bare_pairs")
  m_Filter_parameters : Meth K (He.ga K "Filter") "parameters" (He.ma K (He.ga K "Filter") "parameters")
  g_Unbound : mg "Unbound" = some (.ref (He.ga K "Unbound"))
  e_Unbound : Nonempty (ErrI P K (He.ga K "Unbound") "name")
  g_replaced_in : mg "replaced_in" = some (.ref (He.ga K "replaced_in"))
  m_Filter_bound : Meth K (He.ga K "Filter") "bound" (He.ma K (He.ga K "Filter") "bound")
  errk : ErrA K esZ
  xf_name : ∀ c ∈ esZ, PySem.W.findIn K (.ref (He.ga K c)) "name" = some none
  exm : ExOk K (exTb exL)
  g__law_bound : mg "_law_bound" = some (.ref (He.ga K "_law_bound"))
  g__law_put_in : mg "_law_put_in" = some (.ref (He.ga K "_law_put_in"))
  f_tuple : mg "tuple" = none
  o_Filter___eq__ : OwnM K "Filter" "__eq__" (He.ma K (He.ga K "Filter") "__eq__") tsZ
  g_is_row : mg "is_row" = some (.ref (He.ga K "is_row"))
  g_BadRow : mg "BadRow" = some (.ref (He.ga K "BadRow"))
  e_BadRow : Nonempty (ErrI P K (He.ga K "BadRow") "row")
  m_Filter_look_bound : Meth K (He.ga K "Filter") "look_bound" (He.ma K (He.ga K "Filter") "look_bound")
  g_takes_cells : mg "takes_cells" = some (.ref (He.ga K "takes_cells"))
  m_Filter_takes : Meth K (He.ga K "Filter") "takes" (He.ma K (He.ga K "Filter") "takes")
  call_Filter : CallM K "Filter" (He.ma K (He.ga K "Filter") "__call__")
  g__law_takes : mg "_law_takes" = some (.ref (He.ga K "_law_takes"))
  f_dict : mg "dict" = none
def cks : List Ck := [ckGlo "law",
  ckFree "len",
  ckFree "min",
  ckFree "max",
  ckFree "range",
  ckFree "int",
  ckFree "abs",
  ckFree "enumerate",
  ckGlo "_law_start",
  ckGlo "_law_draw",
  ckGlo "_law_pick",
  ckFld ["Filter"] "form",
  ckMkr "Filter",
  ckGlo "Filter",
  ckSM "Filter" "everything",
  ckFree "str",
  ckIns csZ,
  ckKit kitL,
  ckFree "isinstance",
  ckGlo "is_column",
  ckFree "super",
  ckGlo "BadColumn",
  ckErrC "BadColumn" "column" "ValueError" "ValueError.__init__" "ValueError.__new__" [.type "ValueError", .type "Exception", .type "BaseException", .type "object"],
  ckFld ["Column"] "name",
  ckMkr "Column",
  ckGlo "Column",
  ckGlob "LETTERS" (.str "abcdefghijklmnopqrstuvwxyz"),
  ckFree "all",
  ckGlo "is_name",
  ckGlob "TOP" (.int 999),
  ckFree "bool",
  ckGlo "is_value",
  ckGlo "BadValue",
  ckErrC "BadValue" "value" "ValueError" "ValueError.__init__" "ValueError.__new__" [.type "ValueError", .type "Exception", .type "BaseException", .type "object"],
  ckCls "Column",
  ckMeth "Column" "compared",
  ckOwn "Filter" "__invert__" tsZ,
  ckOwn "Column" "__ne__" tsZ,
  ckOwn "Column" "__eq__" tsZ,
  ckGlo "_law_leaf",
  ckGlo "_law_inverted",
  ckGlo "BadFilter",
  ckErrC "BadFilter" "thing" "ValueError" "ValueError.__init__" "ValueError.__new__" [.type "ValueError", .type "Exception", .type "BaseException", .type "object"],
  ckGlo "parts_of",
  ckGlob "PARTS" (.int 8),
  ckGlo "TooMany",
  ckErrC "TooMany" "limit" "OverflowError" "OverflowError.__init__" "OverflowError.__new__" [.type "OverflowError", .type "ArithmeticError", .type "Exception", .type "BaseException", .type "object"],
  ckCls "Filter",
  ckMeth "Filter" "joined",
  ckBin "Filter" "__and__" .BitAnd,
  ckBin "Filter" "__or__" .BitOr,
  ckGlo "_law_chosen",
  ckGlo "_law_cell",
  ckGlo "_law_once",
  ckGlo "_law_pairs",
  ckFree "list",
  ckGlo "_law_turned",
  ckFree "repr",
  ckGlo "compared_in",
  ckMeth "Filter" "bare_pairs",
  ckMeth "Filter" "parameters",
  ckGlo "Unbound",
  ckErrC "Unbound" "name" "LookupError" "LookupError.__init__" "LookupError.__new__" [.type "LookupError", .type "Exception", .type "BaseException", .type "object"],
  ckGlo "replaced_in",
  ckMeth "Filter" "bound",
  ckErrK esZ,
  ckXfN esZ "name",
  ckExm exL,
  ckGlo "_law_bound",
  ckGlo "_law_put_in",
  ckFree "tuple",
  ckOwn "Filter" "__eq__" tsZ,
  ckGlo "is_row",
  ckGlo "BadRow",
  ckErrC "BadRow" "row" "ValueError" "ValueError.__init__" "ValueError.__new__" [.type "ValueError", .type "Exception", .type "BaseException", .type "object"],
  ckMeth "Filter" "look_bound",
  ckGlo "takes_cells",
  ckMeth "Filter" "takes",
  ckCallM "Filter",
  ckGlo "_law_takes",
  ckFree "dict"]
def z0_law_start : DZ := ⟨fun K => (He.ga K "_law_start"), "_law_start", "_law_start", defArgs s_law_start, defBody s_law_start, defScope s_law_start, [], []⟩
def z0_law_draw : DZ := ⟨fun K => (He.ga K "_law_draw"), "_law_draw", "_law_draw", defArgs s_law_draw, defBody s_law_draw, defScope s_law_draw, [], []⟩
def z0_law_pick : DZ := ⟨fun K => (He.ga K "_law_pick"), "_law_pick", "_law_pick", defArgs s_law_pick, defBody s_law_pick, defScope s_law_pick, [], []⟩
def z0_Filter_init : DZ := ⟨fun K => (He.ma K (He.ga K "Filter") "__init__"), "__init__", "Filter.__init__", defArgs s_Filter_init, defBody s_Filter_init, defScope s_Filter_init, [], []⟩
def z0_Filter_everything : DZ := ⟨fun K => (smA K "Filter" "everything"), "everything", "Filter.everything", defArgs s_Filter_everything, defBody s_Filter_everything, defScope s_Filter_everything, [], []⟩
def z0_is_column : DZ := ⟨fun K => (He.ga K "is_column"), "is_column", "is_column", defArgs s_is_column, defBody s_is_column, defScope s_is_column, [], []⟩
def z0_Column_init : DZ := ⟨fun K => (He.ma K (He.ga K "Column") "__init__"), "__init__", "Column.__init__", defArgs s_Column_init, defBody s_Column_init, defScope s_Column_init, [], []⟩
def z0_Filter_invert : DZ := ⟨fun K => (He.ma K (He.ga K "Filter") "__invert__"), "__invert__", "Filter.__invert__", defArgs s_Filter_invert, defBody s_Filter_invert, defScope s_Filter_invert, [], []⟩
def z0_is_name : DZ := ⟨fun K => (He.ga K "is_name"), "is_name", "is_name", defArgs s_is_name, defBody s_is_name, defScope s_is_name, [], []⟩
def z0_is_value : DZ := ⟨fun K => (He.ga K "is_value"), "is_value", "is_value", defArgs s_is_value, defBody s_is_value, defScope s_is_value, [], []⟩
def z0_Column_compared : DZ := ⟨fun K => (He.ma K (He.ga K "Column") "compared"), "compared", "Column.compared", defArgs s_Column_compared, defBody s_Column_compared, defScope s_Column_compared, [], []⟩
def z0_Column_ne : DZ := ⟨fun K => (He.ma K (He.ga K "Column") "__ne__"), "__ne__", "Column.__ne__", defArgs s_Column_ne, defBody s_Column_ne, defScope s_Column_ne, [], []⟩
def z0_Column_eq : DZ := ⟨fun K => (He.ma K (He.ga K "Column") "__eq__"), "__eq__", "Column.__eq__", defArgs s_Column_eq, defBody s_Column_eq, defScope s_Column_eq, [], []⟩
def z0_law_leaf : DZ := ⟨fun K => (He.ga K "_law_leaf"), "_law_leaf", "_law_leaf", defArgs s_law_leaf, defBody s_law_leaf, defScope s_law_leaf, [], []⟩
def z0_law_inverted : DZ := ⟨fun K => (He.ga K "_law_inverted"), "_law_inverted", "_law_inverted", defArgs s_law_inverted, defBody s_law_inverted, defScope s_law_inverted, [], []⟩
def z0_parts_of : DZ := ⟨fun K => (He.ga K "parts_of"), "parts_of", "parts_of", defArgs s_parts_of, defBody s_parts_of, defScope s_parts_of, [], []⟩
def z0_Filter_joined : DZ := ⟨fun K => (He.ma K (He.ga K "Filter") "joined"), "joined", "Filter.joined", defArgs s_Filter_joined, defBody s_Filter_joined, defScope s_Filter_joined, [], []⟩
def z0_Filter_and : DZ := ⟨fun K => (He.ma K (He.ga K "Filter") "__and__"), "__and__", "Filter.__and__", defArgs s_Filter_and, defBody s_Filter_and, defScope s_Filter_and, [], []⟩
def z0_Filter_or : DZ := ⟨fun K => (He.ma K (He.ga K "Filter") "__or__"), "__or__", "Filter.__or__", defArgs s_Filter_or, defBody s_Filter_or, defScope s_Filter_or, [], []⟩
def z0_law_chosen : DZ := ⟨fun K => (He.ga K "_law_chosen"), "_law_chosen", "_law_chosen", defArgs s_law_chosen, defBody s_law_chosen, defScope s_law_chosen, [], []⟩
def z0_law_cell : DZ := ⟨fun K => (He.ga K "_law_cell"), "_law_cell", "_law_cell", defArgs s_law_cell, defBody s_law_cell, defScope s_law_cell, [], []⟩
def z0_law_once : DZ := ⟨fun K => (He.ga K "_law_once"), "_law_once", "_law_once", defArgs s_law_once, defBody s_law_once, defScope s_law_once, [], []⟩
def z0_law_pairs : DZ := ⟨fun K => (He.ga K "_law_pairs"), "_law_pairs", "_law_pairs", defArgs s_law_pairs, defBody s_law_pairs, defScope s_law_pairs, [], []⟩
def z0_law_turned : DZ := ⟨fun K => (He.ga K "_law_turned"), "_law_turned", "_law_turned", defArgs s_law_turned, defBody s_law_turned, defScope s_law_turned, [], []⟩
def z0_compared_in : DZ := ⟨fun K => (He.ga K "compared_in"), "compared_in", "compared_in", defArgs s_compared_in, defBody s_compared_in, defScope s_compared_in, [], []⟩
def z0_Filter_bare_pairs : DZ := ⟨fun K => (He.ma K (He.ga K "Filter") "bare_pairs"), "bare_pairs", "Filter.bare_pairs", defArgs s_Filter_bare_pairs, defBody s_Filter_bare_pairs, defScope s_Filter_bare_pairs, [], []⟩
def z0_Filter_parameters : DZ := ⟨fun K => (He.ma K (He.ga K "Filter") "parameters"), "parameters", "Filter.parameters", defArgs s_Filter_parameters, defBody s_Filter_parameters, defScope s_Filter_parameters, [], []⟩
def z0_replaced_in : DZ := ⟨fun K => (He.ga K "replaced_in"), "replaced_in", "replaced_in", defArgs s_replaced_in, defBody s_replaced_in, defScope s_replaced_in, [], []⟩
def z0_Filter_bound : DZ := ⟨fun K => (He.ma K (He.ga K "Filter") "bound"), "bound", "Filter.bound", defArgs s_Filter_bound, defBody s_Filter_bound, defScope s_Filter_bound, [], []⟩
def z0_law_bound : DZ := ⟨fun K => (He.ga K "_law_bound"), "_law_bound", "_law_bound", defArgs s_law_bound, defBody s_law_bound, defScope s_law_bound, [], []⟩
def z0_law_put_in : DZ := ⟨fun K => (He.ga K "_law_put_in"), "_law_put_in", "_law_put_in", defArgs s_law_put_in, defBody s_law_put_in, defScope s_law_put_in, [], []⟩
def z0_Filter_eq : DZ := ⟨fun K => (He.ma K (He.ga K "Filter") "__eq__"), "__eq__", "Filter.__eq__", defArgs s_Filter_eq, defBody s_Filter_eq, defScope s_Filter_eq, [], []⟩
def z0_is_row : DZ := ⟨fun K => (He.ga K "is_row"), "is_row", "is_row", defArgs s_is_row, defBody s_is_row, defScope s_is_row, [], []⟩
def z0_Filter_look_bound : DZ := ⟨fun K => (He.ma K (He.ga K "Filter") "look_bound"), "look_bound", "Filter.look_bound", defArgs s_Filter_look_bound, defBody s_Filter_look_bound, defScope s_Filter_look_bound, [], []⟩
def z0_takes_cells : DZ := ⟨fun K => (He.ga K "takes_cells"), "takes_cells", "takes_cells", defArgs s_takes_cells, defBody s_takes_cells, defScope s_takes_cells, [], []⟩
def z0_Filter_takes : DZ := ⟨fun K => (He.ma K (He.ga K "Filter") "takes"), "takes", "Filter.takes", defArgs s_Filter_takes, defBody s_Filter_takes, defScope s_Filter_takes, [], []⟩
def z0_Filter_call : DZ := ⟨fun K => (He.ma K (He.ga K "Filter") "__call__"), "__call__", "Filter.__call__", defArgs s_Filter_call, defBody s_Filter_call, defScope s_Filter_call, [], []⟩
def z0_law_takes : DZ := ⟨fun K => (He.ga K "_law_takes"), "_law_takes", "_law_takes", defArgs s_law_takes, defBody s_law_takes, defScope s_law_takes, [], []⟩
def z0_law : DZ := ⟨fun K => (He.ga K "law"), "law", "law", defArgs s_law, defBody s_law, defScope s_law, [], []⟩
structure DX (K : PySem.W.Frag) : Prop where
  d_law_start : ∃ fd, FunD K "_law_start" "_law_start" (defArgs s_law_start) (defBody s_law_start) (defScope s_law_start) (DZ.dvs K z0_law_start) (DZ.kws K z0_law_start) (He.ga K "_law_start") fd
  d_law_draw : ∃ fd, FunD K "_law_draw" "_law_draw" (defArgs s_law_draw) (defBody s_law_draw) (defScope s_law_draw) (DZ.dvs K z0_law_draw) (DZ.kws K z0_law_draw) (He.ga K "_law_draw") fd
  d_law_pick : ∃ fd, FunD K "_law_pick" "_law_pick" (defArgs s_law_pick) (defBody s_law_pick) (defScope s_law_pick) (DZ.dvs K z0_law_pick) (DZ.kws K z0_law_pick) (He.ga K "_law_pick") fd
  d_Filter_init : ∃ fd, FunD K "__init__" "Filter.__init__" (defArgs s_Filter_init) (defBody s_Filter_init) (defScope s_Filter_init) (DZ.dvs K z0_Filter_init) (DZ.kws K z0_Filter_init) (He.ma K (He.ga K "Filter") "__init__") fd
  d_Filter_everything : ∃ fd, FunD K "everything" "Filter.everything" (defArgs s_Filter_everything) (defBody s_Filter_everything) (defScope s_Filter_everything) (DZ.dvs K z0_Filter_everything) (DZ.kws K z0_Filter_everything) (smA K "Filter" "everything") fd
  d_is_column : ∃ fd, FunD K "is_column" "is_column" (defArgs s_is_column) (defBody s_is_column) (defScope s_is_column) (DZ.dvs K z0_is_column) (DZ.kws K z0_is_column) (He.ga K "is_column") fd
  d_Column_init : ∃ fd, FunD K "__init__" "Column.__init__" (defArgs s_Column_init) (defBody s_Column_init) (defScope s_Column_init) (DZ.dvs K z0_Column_init) (DZ.kws K z0_Column_init) (He.ma K (He.ga K "Column") "__init__") fd
  d_Filter_invert : ∃ fd, FunD K "__invert__" "Filter.__invert__" (defArgs s_Filter_invert) (defBody s_Filter_invert) (defScope s_Filter_invert) (DZ.dvs K z0_Filter_invert) (DZ.kws K z0_Filter_invert) (He.ma K (He.ga K "Filter") "__invert__") fd
  d_is_name : ∃ fd, FunD K "is_name" "is_name" (defArgs s_is_name) (defBody s_is_name) (defScope s_is_name) (DZ.dvs K z0_is_name) (DZ.kws K z0_is_name) (He.ga K "is_name") fd
  d_is_value : ∃ fd, FunD K "is_value" "is_value" (defArgs s_is_value) (defBody s_is_value) (defScope s_is_value) (DZ.dvs K z0_is_value) (DZ.kws K z0_is_value) (He.ga K "is_value") fd
  d_Column_compared : ∃ fd, FunD K "compared" "Column.compared" (defArgs s_Column_compared) (defBody s_Column_compared) (defScope s_Column_compared) (DZ.dvs K z0_Column_compared) (DZ.kws K z0_Column_compared) (He.ma K (He.ga K "Column") "compared") fd
  d_Column_ne : ∃ fd, FunD K "__ne__" "Column.__ne__" (defArgs s_Column_ne) (defBody s_Column_ne) (defScope s_Column_ne) (DZ.dvs K z0_Column_ne) (DZ.kws K z0_Column_ne) (He.ma K (He.ga K "Column") "__ne__") fd
  d_Column_eq : ∃ fd, FunD K "__eq__" "Column.__eq__" (defArgs s_Column_eq) (defBody s_Column_eq) (defScope s_Column_eq) (DZ.dvs K z0_Column_eq) (DZ.kws K z0_Column_eq) (He.ma K (He.ga K "Column") "__eq__") fd
  d_law_leaf : ∃ fd, FunD K "_law_leaf" "_law_leaf" (defArgs s_law_leaf) (defBody s_law_leaf) (defScope s_law_leaf) (DZ.dvs K z0_law_leaf) (DZ.kws K z0_law_leaf) (He.ga K "_law_leaf") fd
  d_law_inverted : ∃ fd, FunD K "_law_inverted" "_law_inverted" (defArgs s_law_inverted) (defBody s_law_inverted) (defScope s_law_inverted) (DZ.dvs K z0_law_inverted) (DZ.kws K z0_law_inverted) (He.ga K "_law_inverted") fd
  d_parts_of : ∃ fd, FunD K "parts_of" "parts_of" (defArgs s_parts_of) (defBody s_parts_of) (defScope s_parts_of) (DZ.dvs K z0_parts_of) (DZ.kws K z0_parts_of) (He.ga K "parts_of") fd
  d_Filter_joined : ∃ fd, FunD K "joined" "Filter.joined" (defArgs s_Filter_joined) (defBody s_Filter_joined) (defScope s_Filter_joined) (DZ.dvs K z0_Filter_joined) (DZ.kws K z0_Filter_joined) (He.ma K (He.ga K "Filter") "joined") fd
  d_Filter_and : ∃ fd, FunD K "__and__" "Filter.__and__" (defArgs s_Filter_and) (defBody s_Filter_and) (defScope s_Filter_and) (DZ.dvs K z0_Filter_and) (DZ.kws K z0_Filter_and) (He.ma K (He.ga K "Filter") "__and__") fd
  d_Filter_or : ∃ fd, FunD K "__or__" "Filter.__or__" (defArgs s_Filter_or) (defBody s_Filter_or) (defScope s_Filter_or) (DZ.dvs K z0_Filter_or) (DZ.kws K z0_Filter_or) (He.ma K (He.ga K "Filter") "__or__") fd
  d_law_chosen : ∃ fd, FunD K "_law_chosen" "_law_chosen" (defArgs s_law_chosen) (defBody s_law_chosen) (defScope s_law_chosen) (DZ.dvs K z0_law_chosen) (DZ.kws K z0_law_chosen) (He.ga K "_law_chosen") fd
  d_law_cell : ∃ fd, FunD K "_law_cell" "_law_cell" (defArgs s_law_cell) (defBody s_law_cell) (defScope s_law_cell) (DZ.dvs K z0_law_cell) (DZ.kws K z0_law_cell) (He.ga K "_law_cell") fd
  d_law_once : ∃ fd, FunD K "_law_once" "_law_once" (defArgs s_law_once) (defBody s_law_once) (defScope s_law_once) (DZ.dvs K z0_law_once) (DZ.kws K z0_law_once) (He.ga K "_law_once") fd
  d_law_pairs : ∃ fd, FunD K "_law_pairs" "_law_pairs" (defArgs s_law_pairs) (defBody s_law_pairs) (defScope s_law_pairs) (DZ.dvs K z0_law_pairs) (DZ.kws K z0_law_pairs) (He.ga K "_law_pairs") fd
  d_law_turned : ∃ fd, FunD K "_law_turned" "_law_turned" (defArgs s_law_turned) (defBody s_law_turned) (defScope s_law_turned) (DZ.dvs K z0_law_turned) (DZ.kws K z0_law_turned) (He.ga K "_law_turned") fd
  d_compared_in : ∃ fd, FunD K "compared_in" "compared_in" (defArgs s_compared_in) (defBody s_compared_in) (defScope s_compared_in) (DZ.dvs K z0_compared_in) (DZ.kws K z0_compared_in) (He.ga K "compared_in") fd
  d_Filter_bare_pairs : ∃ fd, FunD K "bare_pairs" "Filter.bare_pairs" (defArgs s_Filter_bare_pairs) (defBody s_Filter_bare_pairs) (defScope s_Filter_bare_pairs) (DZ.dvs K z0_Filter_bare_pairs) (DZ.kws K z0_Filter_bare_pairs) (He.ma K (He.ga K "Filter") "bare_pairs") fd
  d_Filter_parameters : ∃ fd, FunD K "parameters" "Filter.parameters" (defArgs s_Filter_parameters) (defBody s_Filter_parameters) (defScope s_Filter_parameters) (DZ.dvs K z0_Filter_parameters) (DZ.kws K z0_Filter_parameters) (He.ma K (He.ga K "Filter") "parameters") fd
  d_replaced_in : ∃ fd, FunD K "replaced_in" "replaced_in" (defArgs s_replaced_in) (defBody s_replaced_in) (defScope s_replaced_in) (DZ.dvs K z0_replaced_in) (DZ.kws K z0_replaced_in) (He.ga K "replaced_in") fd
  d_Filter_bound : ∃ fd, FunD K "bound" "Filter.bound" (defArgs s_Filter_bound) (defBody s_Filter_bound) (defScope s_Filter_bound) (DZ.dvs K z0_Filter_bound) (DZ.kws K z0_Filter_bound) (He.ma K (He.ga K "Filter") "bound") fd
  d_law_bound : ∃ fd, FunD K "_law_bound" "_law_bound" (defArgs s_law_bound) (defBody s_law_bound) (defScope s_law_bound) (DZ.dvs K z0_law_bound) (DZ.kws K z0_law_bound) (He.ga K "_law_bound") fd
  d_law_put_in : ∃ fd, FunD K "_law_put_in" "_law_put_in" (defArgs s_law_put_in) (defBody s_law_put_in) (defScope s_law_put_in) (DZ.dvs K z0_law_put_in) (DZ.kws K z0_law_put_in) (He.ga K "_law_put_in") fd
  d_Filter_eq : ∃ fd, FunD K "__eq__" "Filter.__eq__" (defArgs s_Filter_eq) (defBody s_Filter_eq) (defScope s_Filter_eq) (DZ.dvs K z0_Filter_eq) (DZ.kws K z0_Filter_eq) (He.ma K (He.ga K "Filter") "__eq__") fd
  d_is_row : ∃ fd, FunD K "is_row" "is_row" (defArgs s_is_row) (defBody s_is_row) (defScope s_is_row) (DZ.dvs K z0_is_row) (DZ.kws K z0_is_row) (He.ga K "is_row") fd
  d_Filter_look_bound : ∃ fd, FunD K "look_bound" "Filter.look_bound" (defArgs s_Filter_look_bound) (defBody s_Filter_look_bound) (defScope s_Filter_look_bound) (DZ.dvs K z0_Filter_look_bound) (DZ.kws K z0_Filter_look_bound) (He.ma K (He.ga K "Filter") "look_bound") fd
  d_takes_cells : ∃ fd, FunD K "takes_cells" "takes_cells" (defArgs s_takes_cells) (defBody s_takes_cells) (defScope s_takes_cells) (DZ.dvs K z0_takes_cells) (DZ.kws K z0_takes_cells) (He.ga K "takes_cells") fd
  d_Filter_takes : ∃ fd, FunD K "takes" "Filter.takes" (defArgs s_Filter_takes) (defBody s_Filter_takes) (defScope s_Filter_takes) (DZ.dvs K z0_Filter_takes) (DZ.kws K z0_Filter_takes) (He.ma K (He.ga K "Filter") "takes") fd
  d_Filter_call : ∃ fd, FunD K "__call__" "Filter.__call__" (defArgs s_Filter_call) (defBody s_Filter_call) (defScope s_Filter_call) (DZ.dvs K z0_Filter_call) (DZ.kws K z0_Filter_call) (He.ma K (He.ga K "Filter") "__call__") fd
  d_law_takes : ∃ fd, FunD K "_law_takes" "_law_takes" (defArgs s_law_takes) (defBody s_law_takes) (defScope s_law_takes) (DZ.dvs K z0_law_takes) (DZ.kws K z0_law_takes) (He.ga K "_law_takes") fd
  d_law : ∃ fd, FunD K "law" "law" (defArgs s_law) (defBody s_law) (defScope s_law) (DZ.dvs K z0_law) (DZ.kws K z0_law) (He.ga K "law") fd
def dzs : List DZ := [z0_law_start, z0_law_draw, z0_law_pick, z0_Filter_init, z0_Filter_everything, z0_is_column, z0_Column_init, z0_Filter_invert, z0_is_name, z0_is_value, z0_Column_compared, z0_Column_ne, z0_Column_eq, z0_law_leaf, z0_law_inverted, z0_parts_of, z0_Filter_joined, z0_Filter_and, z0_Filter_or, z0_law_chosen, z0_law_cell, z0_law_once, z0_law_pairs, z0_law_turned, z0_compared_in, z0_Filter_bare_pairs, z0_Filter_parameters, z0_replaced_in, z0_Filter_bound, z0_law_bound, z0_law_put_in, z0_Filter_eq, z0_is_row, z0_Filter_look_bound, z0_takes_cells, z0_Filter_takes, z0_Filter_call, z0_law_takes, z0_law]
def ezs : List EZ := [e0_BadColumn, e0_BadValue, e0_BadFilter, e0_TooMany, e0_Unbound, e0_BadRow]
theorem fx_of {P : Program} (hP : ProgF P fileZ) {K : PySem.W.Frag} {h : Heap} {mg : Str → Option Value} (X : K.In h) (G : h.Ns mainGlobals mg) (c0 : SaysZ cks dzs ezs K) : FX P K mg := by
  refine ⟨?_, ?_, ?_, ?_, ?_, ?_, ?_, ?_, ?_, ?_, ?_, ?_, ?_, ?_, ?_, ?_, ?_, ?_, ?_, ?_, ?_, ?_, ?_, ?_, ?_, ?_, ?_, ?_, ?_, ?_, ?_, ?_, ?_, ?_, ?_, ?_, ?_, ?_, ?_, ?_, ?_, ?_, ?_, ?_, ?_, ?_, ?_, ?_, ?_, ?_, ?_, ?_, ?_, ?_, ?_, ?_, ?_, ?_, ?_, ?_, ?_, ?_, ?_, ?_, ?_, ?_, ?_, ?_, ?_, ?_, ?_, ?_, ?_, ?_, ?_, ?_, ?_, ?_, ?_, ?_, ?_⟩
  · have c := c0.fact 0 (f := ckGlo "law") rfl; exact He.glo_ok X G c
  · have c := c0.fact 1 (f := ckFree "len") rfl; exact He.free_ok X G c
  · have c := c0.fact 2 (f := ckFree "min") rfl; exact He.free_ok X G c
  · have c := c0.fact 3 (f := ckFree "max") rfl; exact He.free_ok X G c
  · have c := c0.fact 4 (f := ckFree "range") rfl; exact He.free_ok X G c
  · have c := c0.fact 5 (f := ckFree "int") rfl; exact He.free_ok X G c
  · have c := c0.fact 6 (f := ckFree "abs") rfl; exact He.free_ok X G c
  · have c := c0.fact 7 (f := ckFree "enumerate") rfl; exact He.free_ok X G c
  · have c := c0.fact 8 (f := ckGlo "_law_start") rfl; exact He.glo_ok X G c
  · have c := c0.fact 9 (f := ckGlo "_law_draw") rfl; exact He.glo_ok X G c
  · have c := c0.fact 10 (f := ckGlo "_law_pick") rfl; exact He.glo_ok X G c
  · have c := c0.fact 11 (f := ckFld ["Filter"] "form") rfl; exact ckFld_ok c
  · have c := c0.fact 12 (f := ckMkr "Filter") rfl; exact He.mkr_ok c
  · have c := c0.fact 13 (f := ckGlo "Filter") rfl; exact He.glo_ok X G c
  · have c := c0.fact 14 (f := ckSM "Filter" "everything") rfl; exact ckSM_ok c
  · have c := c0.fact 15 (f := ckFree "str") rfl; exact He.free_ok X G c
  · have c := c0.fact 16 (f := ckIns csZ) rfl; exact ckIns_ok c
  · have c := c0.fact 17 (f := ckKit kitL) rfl; exact ckKit_ok c
  · have c := c0.fact 18 (f := ckFree "isinstance") rfl; exact He.free_ok X G c
  · have c := c0.fact 19 (f := ckGlo "is_column") rfl; exact He.glo_ok X G c
  · have c := c0.fact 20 (f := ckFree "super") rfl; exact He.free_ok X G c
  · have c := c0.fact 21 (f := ckGlo "BadColumn") rfl; exact He.glo_ok X G c
  · have c := c0.fact 22 (f := ckErrC "BadColumn" "column" "ValueError" "ValueError.__init__" "ValueError.__new__" [.type "ValueError", .type "Exception", .type "BaseException", .type "object"]) rfl; exact errI_of (e := e0_BadColumn) base_ValueError (c0.err_ 0 rfl) c rfl rfl rfl rfl hP.file hP.top rfl rfl rfl rfl rfl rfl rfl (by decide +kernel) (fun _ _ _ _ _ _ _ _ _ => rfl) (fun _ => rfl) (by decide) (by decide) (by decide)
  · have c := c0.fact 23 (f := ckFld ["Column"] "name") rfl; exact ckFld_ok c
  · have c := c0.fact 24 (f := ckMkr "Column") rfl; exact He.mkr_ok c
  · have c := c0.fact 25 (f := ckGlo "Column") rfl; exact He.glo_ok X G c
  · have c := c0.fact 26 (f := ckGlob "LETTERS" (.str "abcdefghijklmnopqrstuvwxyz")) rfl; exact gv_ok X G c
  · have c := c0.fact 27 (f := ckFree "all") rfl; exact He.free_ok X G c
  · have c := c0.fact 28 (f := ckGlo "is_name") rfl; exact He.glo_ok X G c
  · have c := c0.fact 29 (f := ckGlob "TOP" (.int 999)) rfl; exact gv_ok X G c
  · have c := c0.fact 30 (f := ckFree "bool") rfl; exact He.free_ok X G c
  · have c := c0.fact 31 (f := ckGlo "is_value") rfl; exact He.glo_ok X G c
  · have c := c0.fact 32 (f := ckGlo "BadValue") rfl; exact He.glo_ok X G c
  · have c := c0.fact 33 (f := ckErrC "BadValue" "value" "ValueError" "ValueError.__init__" "ValueError.__new__" [.type "ValueError", .type "Exception", .type "BaseException", .type "object"]) rfl; exact errI_of (e := e0_BadValue) base_ValueError (c0.err_ 1 rfl) c rfl rfl rfl rfl hP.file hP.top rfl rfl rfl rfl rfl rfl rfl (by decide +kernel) (fun _ _ _ _ _ _ _ _ _ => rfl) (fun _ => rfl) (by decide) (by decide) (by decide)
  · have c := c0.fact 34 (f := ckCls "Column") rfl; exact He.cls_ok c
  · have c := c0.fact 35 (f := ckMeth "Column" "compared") rfl; exact He.meth_ok c
  · have c := c0.fact 36 (f := ckOwn "Filter" "__invert__" tsZ) rfl; exact ckOwn_ok c
  · have c := c0.fact 37 (f := ckOwn "Column" "__ne__" tsZ) rfl; exact ckOwn_ok c
  · have c := c0.fact 38 (f := ckOwn "Column" "__eq__" tsZ) rfl; exact ckOwn_ok c
  · have c := c0.fact 39 (f := ckGlo "_law_leaf") rfl; exact He.glo_ok X G c
  · have c := c0.fact 40 (f := ckGlo "_law_inverted") rfl; exact He.glo_ok X G c
  · have c := c0.fact 41 (f := ckGlo "BadFilter") rfl; exact He.glo_ok X G c
  · have c := c0.fact 42 (f := ckErrC "BadFilter" "thing" "ValueError" "ValueError.__init__" "ValueError.__new__" [.type "ValueError", .type "Exception", .type "BaseException", .type "object"]) rfl; exact errI_of (e := e0_BadFilter) base_ValueError (c0.err_ 2 rfl) c rfl rfl rfl rfl hP.file hP.top rfl rfl rfl rfl rfl rfl rfl (by decide +kernel) (fun _ _ _ _ _ _ _ _ _ => rfl) (fun _ => rfl) (by decide) (by decide) (by decide)
  · have c := c0.fact 43 (f := ckGlo "parts_of") rfl; exact He.glo_ok X G c
  · have c := c0.fact 44 (f := ckGlob "PARTS" (.int 8)) rfl; exact gv_ok X G c
  · have c := c0.fact 45 (f := ckGlo "TooMany") rfl; exact He.glo_ok X G c
  · have c := c0.fact 46 (f := ckErrC "TooMany" "limit" "OverflowError" "OverflowError.__init__" "OverflowError.__new__" [.type "OverflowError", .type "ArithmeticError", .type "Exception", .type "BaseException", .type "object"]) rfl; exact errI_of (e := e0_TooMany) base_OverflowError (c0.err_ 3 rfl) c rfl rfl rfl rfl hP.file hP.top rfl rfl rfl rfl rfl rfl rfl (by decide +kernel) (fun _ _ _ _ _ _ _ _ _ => rfl) (fun _ => rfl) (by decide) (by decide) (by decide)
  · have c := c0.fact 47 (f := ckCls "Filter") rfl; exact He.cls_ok c
  · have c := c0.fact 48 (f := ckMeth "Filter" "joined") rfl; exact He.meth_ok c
  · have c := c0.fact 49 (f := ckBin "Filter" "__and__" .BitAnd) rfl; exact ckBin_ok c
  · have c := c0.fact 50 (f := ckBin "Filter" "__or__" .BitOr) rfl; exact ckBin_ok c
  · have c := c0.fact 51 (f := ckGlo "_law_chosen") rfl; exact He.glo_ok X G c
  · have c := c0.fact 52 (f := ckGlo "_law_cell") rfl; exact He.glo_ok X G c
  · have c := c0.fact 53 (f := ckGlo "_law_once") rfl; exact He.glo_ok X G c
  · have c := c0.fact 54 (f := ckGlo "_law_pairs") rfl; exact He.glo_ok X G c
  · have c := c0.fact 55 (f := ckFree "list") rfl; exact He.free_ok X G c
  · have c := c0.fact 56 (f := ckGlo "_law_turned") rfl; exact He.glo_ok X G c
  · have c := c0.fact 57 (f := ckFree "repr") rfl; exact He.free_ok X G c
  · have c := c0.fact 58 (f := ckGlo "compared_in") rfl; exact He.glo_ok X G c
  · have c := c0.fact 59 (f := ckMeth "Filter" "bare_pairs") rfl; exact He.meth_ok c
  · have c := c0.fact 60 (f := ckMeth "Filter" "parameters") rfl; exact He.meth_ok c
  · have c := c0.fact 61 (f := ckGlo "Unbound") rfl; exact He.glo_ok X G c
  · have c := c0.fact 62 (f := ckErrC "Unbound" "name" "LookupError" "LookupError.__init__" "LookupError.__new__" [.type "LookupError", .type "Exception", .type "BaseException", .type "object"]) rfl; exact errI_of (e := e0_Unbound) base_LookupError (c0.err_ 4 rfl) c rfl rfl rfl rfl hP.file hP.top rfl rfl rfl rfl rfl rfl rfl (by decide +kernel) (fun _ _ _ _ _ _ _ _ _ => rfl) (fun _ => rfl) (by decide) (by decide) (by decide)
  · have c := c0.fact 63 (f := ckGlo "replaced_in") rfl; exact He.glo_ok X G c
  · have c := c0.fact 64 (f := ckMeth "Filter" "bound") rfl; exact He.meth_ok c
  · have c := c0.fact 65 (f := ckErrK esZ) rfl; exact ckErrK_ok c
  · have c := c0.fact 66 (f := ckXfN esZ "name") rfl; exact ckXfN_ok c
  · have c := c0.fact 67 (f := ckExm exL) rfl; exact ckExm_ok c
  · have c := c0.fact 68 (f := ckGlo "_law_bound") rfl; exact He.glo_ok X G c
  · have c := c0.fact 69 (f := ckGlo "_law_put_in") rfl; exact He.glo_ok X G c
  · have c := c0.fact 70 (f := ckFree "tuple") rfl; exact He.free_ok X G c
  · have c := c0.fact 71 (f := ckOwn "Filter" "__eq__" tsZ) rfl; exact ckOwn_ok c
  · have c := c0.fact 72 (f := ckGlo "is_row") rfl; exact He.glo_ok X G c
  · have c := c0.fact 73 (f := ckGlo "BadRow") rfl; exact He.glo_ok X G c
  · have c := c0.fact 74 (f := ckErrC "BadRow" "row" "ValueError" "ValueError.__init__" "ValueError.__new__" [.type "ValueError", .type "Exception", .type "BaseException", .type "object"]) rfl; exact errI_of (e := e0_BadRow) base_ValueError (c0.err_ 5 rfl) c rfl rfl rfl rfl hP.file hP.top rfl rfl rfl rfl rfl rfl rfl (by decide +kernel) (fun _ _ _ _ _ _ _ _ _ => rfl) (fun _ => rfl) (by decide) (by decide) (by decide)
  · have c := c0.fact 75 (f := ckMeth "Filter" "look_bound") rfl; exact He.meth_ok c
  · have c := c0.fact 76 (f := ckGlo "takes_cells") rfl; exact He.glo_ok X G c
  · have c := c0.fact 77 (f := ckMeth "Filter" "takes") rfl; exact He.meth_ok c
  · have c := c0.fact 78 (f := ckCallM "Filter") rfl; exact ckCallM_ok c
  · have c := c0.fact 79 (f := ckGlo "_law_takes") rfl; exact He.glo_ok X G c
  · have c := c0.fact 80 (f := ckFree "dict") rfl; exact He.free_ok X G c
theorem dx_of {K : PySem.W.Frag} (c0 : SaysZ cks dzs ezs K) : DX K := ⟨c0.def_ 0 (d := z0_law_start) rfl, c0.def_ 1 (d := z0_law_draw) rfl, c0.def_ 2 (d := z0_law_pick) rfl, c0.def_ 3 (d := z0_Filter_init) rfl, c0.def_ 4 (d := z0_Filter_everything) rfl, c0.def_ 5 (d := z0_is_column) rfl, c0.def_ 6 (d := z0_Column_init) rfl, c0.def_ 7 (d := z0_Filter_invert) rfl, c0.def_ 8 (d := z0_is_name) rfl, c0.def_ 9 (d := z0_is_value) rfl, c0.def_ 10 (d := z0_Column_compared) rfl, c0.def_ 11 (d := z0_Column_ne) rfl, c0.def_ 12 (d := z0_Column_eq) rfl, c0.def_ 13 (d := z0_law_leaf) rfl, c0.def_ 14 (d := z0_law_inverted) rfl, c0.def_ 15 (d := z0_parts_of) rfl, c0.def_ 16 (d := z0_Filter_joined) rfl, c0.def_ 17 (d := z0_Filter_and) rfl, c0.def_ 18 (d := z0_Filter_or) rfl, c0.def_ 19 (d := z0_law_chosen) rfl, c0.def_ 20 (d := z0_law_cell) rfl, c0.def_ 21 (d := z0_law_once) rfl, c0.def_ 22 (d := z0_law_pairs) rfl, c0.def_ 23 (d := z0_law_turned) rfl, c0.def_ 24 (d := z0_compared_in) rfl, c0.def_ 25 (d := z0_Filter_bare_pairs) rfl, c0.def_ 26 (d := z0_Filter_parameters) rfl, c0.def_ 27 (d := z0_replaced_in) rfl, c0.def_ 28 (d := z0_Filter_bound) rfl, c0.def_ 29 (d := z0_law_bound) rfl, c0.def_ 30 (d := z0_law_put_in) rfl, c0.def_ 31 (d := z0_Filter_eq) rfl, c0.def_ 32 (d := z0_is_row) rfl, c0.def_ 33 (d := z0_Filter_look_bound) rfl, c0.def_ 34 (d := z0_takes_cells) rfl, c0.def_ 35 (d := z0_Filter_takes) rfl, c0.def_ 36 (d := z0_Filter_call) rfl, c0.def_ 37 (d := z0_law_takes) rfl, c0.def_ 38 (d := z0_law) rfl⟩
theorem kp_law_start {K : PySem.W.Frag} (Df : DX K) : PySem.W.keepIn K (.ref (He.ga K "_law_start")) = true := (Df.d_law_start).elim fun _ F => F.kp
theorem kp_law_draw {K : PySem.W.Frag} (Df : DX K) : PySem.W.keepIn K (.ref (He.ga K "_law_draw")) = true := (Df.d_law_draw).elim fun _ F => F.kp
theorem kp_law_pick {K : PySem.W.Frag} (Df : DX K) : PySem.W.keepIn K (.ref (He.ga K "_law_pick")) = true := (Df.d_law_pick).elim fun _ F => F.kp
theorem kp_Filter_init {K : PySem.W.Frag} (Df : DX K) : PySem.W.keepIn K (.ref (He.ma K (He.ga K "Filter") "__init__")) = true := (Df.d_Filter_init).elim fun _ F => F.kp
theorem kp_Filter_everything {K : PySem.W.Frag} (Df : DX K) : PySem.W.keepIn K (.ref (smA K "Filter" "everything")) = true := (Df.d_Filter_everything).elim fun _ F => F.kp
theorem kp_is_column {K : PySem.W.Frag} (Df : DX K) : PySem.W.keepIn K (.ref (He.ga K "is_column")) = true := (Df.d_is_column).elim fun _ F => F.kp
theorem kp_Column_init {K : PySem.W.Frag} (Df : DX K) : PySem.W.keepIn K (.ref (He.ma K (He.ga K "Column") "__init__")) = true := (Df.d_Column_init).elim fun _ F => F.kp
theorem kp_Filter_invert {K : PySem.W.Frag} (Df : DX K) : PySem.W.keepIn K (.ref (He.ma K (He.ga K "Filter") "__invert__")) = true := (Df.d_Filter_invert).elim fun _ F => F.kp
theorem kp_is_name {K : PySem.W.Frag} (Df : DX K) : PySem.W.keepIn K (.ref (He.ga K "is_name")) = true := (Df.d_is_name).elim fun _ F => F.kp
theorem kp_is_value {K : PySem.W.Frag} (Df : DX K) : PySem.W.keepIn K (.ref (He.ga K "is_value")) = true := (Df.d_is_value).elim fun _ F => F.kp
theorem kp_Column_compared {K : PySem.W.Frag} (Df : DX K) : PySem.W.keepIn K (.ref (He.ma K (He.ga K "Column") "compared")) = true := (Df.d_Column_compared).elim fun _ F => F.kp
theorem kp_Column_ne {K : PySem.W.Frag} (Df : DX K) : PySem.W.keepIn K (.ref (He.ma K (He.ga K "Column") "__ne__")) = true := (Df.d_Column_ne).elim fun _ F => F.kp
theorem kp_Column_eq {K : PySem.W.Frag} (Df : DX K) : PySem.W.keepIn K (.ref (He.ma K (He.ga K "Column") "__eq__")) = true := (Df.d_Column_eq).elim fun _ F => F.kp
theorem kp_law_leaf {K : PySem.W.Frag} (Df : DX K) : PySem.W.keepIn K (.ref (He.ga K "_law_leaf")) = true := (Df.d_law_leaf).elim fun _ F => F.kp
theorem kp_law_inverted {K : PySem.W.Frag} (Df : DX K) : PySem.W.keepIn K (.ref (He.ga K "_law_inverted")) = true := (Df.d_law_inverted).elim fun _ F => F.kp
theorem kp_parts_of {K : PySem.W.Frag} (Df : DX K) : PySem.W.keepIn K (.ref (He.ga K "parts_of")) = true := (Df.d_parts_of).elim fun _ F => F.kp
theorem kp_Filter_joined {K : PySem.W.Frag} (Df : DX K) : PySem.W.keepIn K (.ref (He.ma K (He.ga K "Filter") "joined")) = true := (Df.d_Filter_joined).elim fun _ F => F.kp
theorem kp_Filter_and {K : PySem.W.Frag} (Df : DX K) : PySem.W.keepIn K (.ref (He.ma K (He.ga K "Filter") "__and__")) = true := (Df.d_Filter_and).elim fun _ F => F.kp
theorem kp_Filter_or {K : PySem.W.Frag} (Df : DX K) : PySem.W.keepIn K (.ref (He.ma K (He.ga K "Filter") "__or__")) = true := (Df.d_Filter_or).elim fun _ F => F.kp
theorem kp_law_chosen {K : PySem.W.Frag} (Df : DX K) : PySem.W.keepIn K (.ref (He.ga K "_law_chosen")) = true := (Df.d_law_chosen).elim fun _ F => F.kp
theorem kp_law_cell {K : PySem.W.Frag} (Df : DX K) : PySem.W.keepIn K (.ref (He.ga K "_law_cell")) = true := (Df.d_law_cell).elim fun _ F => F.kp
theorem kp_law_once {K : PySem.W.Frag} (Df : DX K) : PySem.W.keepIn K (.ref (He.ga K "_law_once")) = true := (Df.d_law_once).elim fun _ F => F.kp
theorem kp_law_pairs {K : PySem.W.Frag} (Df : DX K) : PySem.W.keepIn K (.ref (He.ga K "_law_pairs")) = true := (Df.d_law_pairs).elim fun _ F => F.kp
theorem kp_law_turned {K : PySem.W.Frag} (Df : DX K) : PySem.W.keepIn K (.ref (He.ga K "_law_turned")) = true := (Df.d_law_turned).elim fun _ F => F.kp
theorem kp_compared_in {K : PySem.W.Frag} (Df : DX K) : PySem.W.keepIn K (.ref (He.ga K "compared_in")) = true := (Df.d_compared_in).elim fun _ F => F.kp
theorem kp_Filter_bare_pairs {K : PySem.W.Frag} (Df : DX K) : PySem.W.keepIn K (.ref (He.ma K (He.ga K "Filter") "bare_pairs")) = true := (Df.d_Filter_bare_pairs).elim fun _ F => F.kp
theorem kp_Filter_parameters {K : PySem.W.Frag} (Df : DX K) : PySem.W.keepIn K (.ref (He.ma K (He.ga K "Filter") "parameters")) = true := (Df.d_Filter_parameters).elim fun _ F => F.kp
theorem kp_replaced_in {K : PySem.W.Frag} (Df : DX K) : PySem.W.keepIn K (.ref (He.ga K "replaced_in")) = true := (Df.d_replaced_in).elim fun _ F => F.kp
theorem kp_Filter_bound {K : PySem.W.Frag} (Df : DX K) : PySem.W.keepIn K (.ref (He.ma K (He.ga K "Filter") "bound")) = true := (Df.d_Filter_bound).elim fun _ F => F.kp
theorem kp_law_bound {K : PySem.W.Frag} (Df : DX K) : PySem.W.keepIn K (.ref (He.ga K "_law_bound")) = true := (Df.d_law_bound).elim fun _ F => F.kp
theorem kp_law_put_in {K : PySem.W.Frag} (Df : DX K) : PySem.W.keepIn K (.ref (He.ga K "_law_put_in")) = true := (Df.d_law_put_in).elim fun _ F => F.kp
theorem kp_Filter_eq {K : PySem.W.Frag} (Df : DX K) : PySem.W.keepIn K (.ref (He.ma K (He.ga K "Filter") "__eq__")) = true := (Df.d_Filter_eq).elim fun _ F => F.kp
theorem kp_is_row {K : PySem.W.Frag} (Df : DX K) : PySem.W.keepIn K (.ref (He.ga K "is_row")) = true := (Df.d_is_row).elim fun _ F => F.kp
theorem kp_Filter_look_bound {K : PySem.W.Frag} (Df : DX K) : PySem.W.keepIn K (.ref (He.ma K (He.ga K "Filter") "look_bound")) = true := (Df.d_Filter_look_bound).elim fun _ F => F.kp
theorem kp_takes_cells {K : PySem.W.Frag} (Df : DX K) : PySem.W.keepIn K (.ref (He.ga K "takes_cells")) = true := (Df.d_takes_cells).elim fun _ F => F.kp
theorem kp_Filter_takes {K : PySem.W.Frag} (Df : DX K) : PySem.W.keepIn K (.ref (He.ma K (He.ga K "Filter") "takes")) = true := (Df.d_Filter_takes).elim fun _ F => F.kp
theorem kp_Filter_call {K : PySem.W.Frag} (Df : DX K) : PySem.W.keepIn K (.ref (He.ma K (He.ga K "Filter") "__call__")) = true := (Df.d_Filter_call).elim fun _ F => F.kp
theorem kp_law_takes {K : PySem.W.Frag} (Df : DX K) : PySem.W.keepIn K (.ref (He.ga K "_law_takes")) = true := (Df.d_law_takes).elim fun _ F => F.kp
theorem kp_law {K : PySem.W.Frag} (Df : DX K) : PySem.W.keepIn K (.ref (He.ga K "law")) = true := (Df.d_law).elim fun _ F => F.kp
/-! ### _law_start -/
def D_law_start : DS := (dSeq (dAsgL 2 false (dLc (iSeqD (dSl (dVar 0) (fun _ m => some (.ok none, m)) (dPart (dC (.int 63))))) (gcVar 3) dYes (dB intFn (dCons (dVar 3) (fun _ m => some (.ok [], m)))) ([("_law_number", 3)].map (·.2))))
  (dSeq (dAsg 4 (dIf (b2 ltI (dVar 1) (dB lenF (dCons (dVar 2) (fun _ m => some (.ok [], m))))) (dB absF (dCons (d2 ixA (dVar 2) (dVar 1)) (fun _ m => some (.ok [], m)))) (dC (.int 0))))
  (dSeq (dAsg 5 (d2 addA (d2 mulA (dC (.int 5003)) (dVar 1)) (dC (.int 71))))
  (dSeq (dFor (iEnm (dCons (dVar 2) (fun _ m => some (.ok [], m)))) (gTupD (gsCons (gVar 6) (gsCons (gVar 3) gsNil)))
  (dAsg 5 (d2 modI (dB intFn (dCons (d2 addA (d2 addA (d2 mulA (dVar 5) (dC (.int 69621))) (d2 modI (dB intFn (dCons (dVar 3) (fun _ m => some (.ok [], m)))) (dC (.int 2147483587)))) (d2 mulA (dC (.int 17)) (dVar 6))) (fun _ m => some (.ok [], m)))) (dC (.int 2147483629)))))
  (dRet (dNew (dLst (dCons (dIf (b2 geI (dVar 4) (d2 powI (dC (.int 10)) (dC (.int 18)))) (dVar 4) (dC (.int 0))) (dCons (dVar 5) (dCons (dC (.int 0)) (dCons (dVar 2) (fun _ m => some (.ok [], m)))))))))))))
def B_law_start : FD := bodyD 7 D_law_start
theorem sc_law_start : FnScope ["_law_script", "_law_turn", "_law_numbers", "_law_number", "_law_cell_here", "_law_begin", "_law_place"] ["_law_script", "_law_turn"] (defScope s_law_start) := ⟨rfl, rfl, rfl, by decide +kernel, rfl, by decide +kernel, by decide +kernel⟩
theorem ok_law_start {P : Program} {w : World} {K : PySem.W.Frag} {mg : Str → Option Value} {base : Heap} (Xf : FX P K mg) (Df : DX K) {fd : FuncData} (F : FunD K "_law_start" "_law_start" (defArgs s_law_start) (defBody s_law_start) (defScope s_law_start) (DZ.dvs K z0_law_start) (DZ.kws K z0_law_start) (He.ga K "_law_start") fd) :
    Z.FnOk P w K mg base (L2.CX P w) 1 (He.ga K "_law_start") fd ["_law_script", "_law_turn"] (spZ K 2 B_law_start) := by
  have S := sc_law_start
  exact body_ok F S fun cdv A outer s H E hr => (sss_cons (ss_setLc (i := 2) (cell := false) rfl S.nd rfl rfl (by rfl) (si_seq (se_slice (se_var (i := 0) rfl (.inl rfl)) so_none (so_some se_int))) (own := [("_law_number", 3)]) (blkOk_by rfl) (fun _ _ _ _ _ => (sgc_name (i := 3) S.nd rfl (.inl rfl))) (fun _ _ _ _ _ => sts_nil) (fun _ _ _ _ _ => (se_int1 rfl Xf.f_int (sa_cons (se_var (i := 3) rfl (.inl rfl)) sa_nil))))
  (sss_cons (ss_set (i := 4) S.nd rfl (.inl rfl) (se_if (st_lt (se_var (i := 1) rfl (.inl rfl)) (se_len rfl Xf.f_len (sa_cons (se_var (i := 2) rfl (.inl rfl)) sa_nil))) (se_abs rfl Xf.f_abs (sa_cons (se_ix (se_var (i := 2) rfl (.inl rfl)) (se_var (i := 1) rfl (.inl rfl))) sa_nil)) se_int))
  (sss_cons (ss_set (i := 5) S.nd rfl (.inl rfl) (se_add (se_mul se_int (se_var (i := 1) rfl (.inl rfl))) se_int))
  (sss_cons (ss_for (passes_of rfl) rfl (si_enum rfl Xf.f_enumerate (sa_cons (se_var (i := 2) rfl (.inl rfl)) sa_nil)) (sg_tup rfl (sgs_cons (sg_name (i := 6) S.nd rfl (.inl rfl)) (sgs_cons (sg_name (i := 3) S.nd rfl (.inl rfl)) sgs_nil)) (gsl_cons (gsl_cons gsl_nil)))
  (sss_one (ss_set (i := 5) S.nd rfl (.inl rfl) (se_mod (se_int1 rfl Xf.f_int (sa_cons (se_add (se_add (se_mul (se_var (i := 5) rfl (.inl rfl)) se_int) (se_mod (se_int1 rfl Xf.f_int (sa_cons (se_var (i := 3) rfl (.inl rfl)) sa_nil)) se_int)) (se_mul se_int (se_var (i := 6) rfl (.inl rfl)))) sa_nil)) se_int))))
  (sss_one (ss_ret (se_new (sl_lst (sa_cons (se_if (st_ge (se_var (i := 4) rfl (.inl rfl)) (se_pow se_int se_int)) (se_var (i := 4) rfl (.inl rfl)) se_int) (sa_cons (se_var (i := 5) rfl (.inl rfl)) (sa_cons se_int (sa_cons (se_var (i := 2) rfl (.inl rfl)) sa_nil))))))))))))
abbrev G_law_start : FD := B_law_start
theorem z_law_start_2 {P : Program} {w : World} {K : PySem.W.Frag} {mg : Str → Option Value} {base : Heap} (Xf : FX P K mg) (Df : DX K) : Fz P w K mg base 1 (He.ga K "_law_start") 2 [] (fun xs ys => pickL [.a 0, .a 1] xs [] [] ys) G_law_start := by
  obtain ⟨fd, F⟩ := Df.d_law_start
  have G0 := ok_law_start (P := P) (w := w) (base := base) Xf Df F
  exact fz1 F G0 2 [] [.a 0, .a 1] (fun _ _ _ _ _ _ us ws h1 h2 => match us, ws, h1, h2 with | [_, _], [], _, _ => rfl)
def c_law_start_2 : List Vl → List Vl → Mem → Option (R Vl × Mem) := fun xs ys => G_law_start ((fun xs ys => pickL [.a 0, .a 1] xs [] [] ys) xs ys)
theorem c_law_start_2_runs {Y : Cx} (Xf : FX Y.prog Y.K Y.mg) (Df : DX Y.K) (hr : Z.Room 1 Y.A) : Z.Runs Y (He.ga Y.K "_law_start") 2 [] c_law_start_2 := (z_law_start_2 Xf Df).runs hr
def h_law_start_2 : List Vl → List Vl → Mem → Option (R Vl × Mem) := freshG kTop 30 c_law_start_2
theorem h_law_start_2_runs {Y : Cx} (Xf : FX Y.prog Y.K Y.mg) (Df : DX Y.K) (hr : Z.Room 1 Y.A) : Z.Runs Y (He.ga Y.K "_law_start") 2 [] h_law_start_2 := Z.Runs.fresh (c_law_start_2_runs Xf Df hr) kTop 30
/-! ### _law_draw -/
def D_law_draw : DS := (dSeq (dIfS (b2 gtI (d2 ixA (dVar 0) (dC (.int 0))) (dC (.int 0)))
  (dSeq (dAsg 2 (d2 modI (dB intFn (dCons (d2 ixA (dVar 0) (dC (.int 0))) (fun _ m => some (.ok [], m)))) (dVar 1)))
  (dSeq (dAsgG (gSetI (dVar 0) (dC (.int 0))) (d2 divI (d2 ixA (dVar 0) (dC (.int 0))) (dVar 1)))
  (dRet (dVar 2))))
  dNil)
  (dSeq (dIfS (b2 eqF (d2 ixA (dVar 0) (dC (.int 3))) (dFrz (dLst (fun _ m => some (.ok [], m)))))
  (dRet (dC (.int 0)))
  dNil)
  (dSeq (dAsgG (gSetI (dVar 0) (dC (.int 2))) (d2 addA (d2 ixA (dVar 0) (dC (.int 2))) (dC (.int 1))))
  (dSeq (dAsg 3 (d2 ixA (d2 ixA (dVar 0) (dC (.int 3))) (d2 modI (dB intFn (dCons (d2 ixA (dVar 0) (dC (.int 2))) (fun _ m => some (.ok [], m)))) (dB lenF (dCons (d2 ixA (dVar 0) (dC (.int 3))) (fun _ m => some (.ok [], m)))))))
  (dSeq (dAsgG (gSetI (dVar 0) (dC (.int 1))) (d2 modI (dB intFn (dCons (d2 addA (d2 addA (d2 mulA (d2 ixA (dVar 0) (dC (.int 1))) (dC (.int 48271))) (d2 modI (dB intFn (dCons (dVar 3) (fun _ m => some (.ok [], m)))) (dC (.int 1000003)))) (d2 mulA (dC (.int 30011)) (d2 ixA (dVar 0) (dC (.int 2))))) (fun _ m => some (.ok [], m)))) (dC (.int 2147483629))))
  (dRet (d2 modI (dB intFn (dCons (d2 divI (d2 modI (dB intFn (dCons (d2 mulA (d2 ixA (dVar 0) (dC (.int 1))) (dC (.int 39373))) (fun _ m => some (.ok [], m)))) (dC (.int 2147483647))) (dC (.int 128))) (fun _ m => some (.ok [], m)))) (dVar 1))))))))
def B_law_draw : FD := bodyD 4 D_law_draw
theorem sc_law_draw : FnScope ["_law_bag", "_law_many", "_law_digit", "_law_more"] ["_law_bag", "_law_many"] (defScope s_law_draw) := ⟨rfl, rfl, rfl, by decide +kernel, rfl, by decide +kernel, by decide +kernel⟩
theorem ok_law_draw {P : Program} {w : World} {K : PySem.W.Frag} {mg : Str → Option Value} {base : Heap} (Xf : FX P K mg) (Df : DX K) {fd : FuncData} (F : FunD K "_law_draw" "_law_draw" (defArgs s_law_draw) (defBody s_law_draw) (defScope s_law_draw) (DZ.dvs K z0_law_draw) (DZ.kws K z0_law_draw) (He.ga K "_law_draw") fd) :
    Z.FnOk P w K mg base (L2.CX P w) 1 (He.ga K "_law_draw") fd ["_law_bag", "_law_many"] (spZ K 2 B_law_draw) := by
  have S := sc_law_draw
  exact body_ok F S fun cdv A outer s H E hr => (sss_cons (ss_if (st_gt (se_ix (se_var (i := 0) rfl (.inl rfl)) se_int) se_int)
  (sss_cons (ss_set (i := 2) S.nd rfl (.inl rfl) (se_mod (se_int1 rfl Xf.f_int (sa_cons (se_ix (se_var (i := 0) rfl (.inl rfl)) se_int) sa_nil)) (se_var (i := 1) rfl (.inl rfl))))
  (sss_cons (ss_asg (se_div (se_ix (se_var (i := 0) rfl (.inl rfl)) se_int) (se_var (i := 1) rfl (.inl rfl))) (sg_setI (se_var (i := 0) rfl (.inl rfl)) se_int))
  (sss_one (ss_ret (se_var (i := 2) rfl (.inl rfl))))))
  sss_nil)
  (sss_cons (ss_if (st_eq (u64 hr) (se_ix (se_var (i := 0) rfl (.inl rfl)) se_int) (se_frz (sl_lst sa_nil)))
  (sss_one (ss_ret se_int))
  sss_nil)
  (sss_cons (ss_asg (se_add (se_ix (se_var (i := 0) rfl (.inl rfl)) se_int) se_int) (sg_setI (se_var (i := 0) rfl (.inl rfl)) se_int))
  (sss_cons (ss_set (i := 3) S.nd rfl (.inl rfl) (se_ix (se_ix (se_var (i := 0) rfl (.inl rfl)) se_int) (se_mod (se_int1 rfl Xf.f_int (sa_cons (se_ix (se_var (i := 0) rfl (.inl rfl)) se_int) sa_nil)) (se_len rfl Xf.f_len (sa_cons (se_ix (se_var (i := 0) rfl (.inl rfl)) se_int) sa_nil)))))
  (sss_cons (ss_asg (se_mod (se_int1 rfl Xf.f_int (sa_cons (se_add (se_add (se_mul (se_ix (se_var (i := 0) rfl (.inl rfl)) se_int) se_int) (se_mod (se_int1 rfl Xf.f_int (sa_cons (se_var (i := 3) rfl (.inl rfl)) sa_nil)) se_int)) (se_mul se_int (se_ix (se_var (i := 0) rfl (.inl rfl)) se_int))) sa_nil)) se_int) (sg_setI (se_var (i := 0) rfl (.inl rfl)) se_int))
  (sss_one (ss_ret (se_mod (se_int1 rfl Xf.f_int (sa_cons (se_div (se_mod (se_int1 rfl Xf.f_int (sa_cons (se_mul (se_ix (se_var (i := 0) rfl (.inl rfl)) se_int) se_int) sa_nil)) se_int) se_int) sa_nil)) (se_var (i := 1) rfl (.inl rfl))))))))))
abbrev G_law_draw : FD := B_law_draw
theorem z_law_draw_2 {P : Program} {w : World} {K : PySem.W.Frag} {mg : Str → Option Value} {base : Heap} (Xf : FX P K mg) (Df : DX K) : Fz P w K mg base 1 (He.ga K "_law_draw") 2 [] (fun xs ys => pickL [.a 0, .a 1] xs [] [] ys) G_law_draw := by
  obtain ⟨fd, F⟩ := Df.d_law_draw
  have G0 := ok_law_draw (P := P) (w := w) (base := base) Xf Df F
  exact fz1 F G0 2 [] [.a 0, .a 1] (fun _ _ _ _ _ _ us ws h1 h2 => match us, ws, h1, h2 with | [_, _], [], _, _ => rfl)
def c_law_draw_2 : List Vl → List Vl → Mem → Option (R Vl × Mem) := fun xs ys => G_law_draw ((fun xs ys => pickL [.a 0, .a 1] xs [] [] ys) xs ys)
theorem c_law_draw_2_runs {Y : Cx} (Xf : FX Y.prog Y.K Y.mg) (Df : DX Y.K) (hr : Z.Room 1 Y.A) : Z.Runs Y (He.ga Y.K "_law_draw") 2 [] c_law_draw_2 := (z_law_draw_2 Xf Df).runs hr
/-! ### _law_pick -/
def D_law_pick : DS := (dRet (d2 ixA (dVar 1) (dCall 2 0 c_law_draw_2 (dCons (dVar 0) (dCons (dB lenF (dCons (dVar 1) (fun _ m => some (.ok [], m)))) (fun _ m => some (.ok [], m)))) dNone)))
def B_law_pick : FD := bodyD 2 D_law_pick
theorem sc_law_pick : FnScope ["_law_bag", "_law_some"] ["_law_bag", "_law_some"] (defScope s_law_pick) := ⟨rfl, rfl, rfl, by decide +kernel, rfl, by decide +kernel, by decide +kernel⟩
theorem ok_law_pick {P : Program} {w : World} {K : PySem.W.Frag} {mg : Str → Option Value} {base : Heap} (Xf : FX P K mg) (Df : DX K) {fd : FuncData} (F : FunD K "_law_pick" "_law_pick" (defArgs s_law_pick) (defBody s_law_pick) (defScope s_law_pick) (DZ.dvs K z0_law_pick) (DZ.kws K z0_law_pick) (He.ga K "_law_pick") fd) :
    Z.FnOk P w K mg base (L2.CX P w) 2 (He.ga K "_law_pick") fd ["_law_bag", "_law_some"] (spZ K 2 B_law_pick) := by
  have S := sc_law_pick
  exact body_ok F S fun cdv A outer s H E hr => (sss_one (ss_ret (se_ix (se_var (i := 1) rfl (.inl rfl)) (se_call (c_law_draw_2_runs Xf Df (hr.mono (by decide : 1 ≤ 1))) (kp_law_draw Df) Xf.g__law_draw rfl (sa_cons (se_var (i := 0) rfl (.inl rfl)) (sa_cons (se_len rfl Xf.f_len (sa_cons (se_var (i := 1) rfl (.inl rfl)) sa_nil)) sa_nil))))))
abbrev G_law_pick : FD := B_law_pick
theorem z_law_pick_2 {P : Program} {w : World} {K : PySem.W.Frag} {mg : Str → Option Value} {base : Heap} (Xf : FX P K mg) (Df : DX K) : Fz P w K mg base 2 (He.ga K "_law_pick") 2 [] (fun xs ys => pickL [.a 0, .a 1] xs [] [] ys) G_law_pick := by
  obtain ⟨fd, F⟩ := Df.d_law_pick
  have G0 := ok_law_pick (P := P) (w := w) (base := base) Xf Df F
  exact fz1 F G0 2 [] [.a 0, .a 1] (fun _ _ _ _ _ _ us ws h1 h2 => match us, ws, h1, h2 with | [_, _], [], _, _ => rfl)
def c_law_pick_2 : List Vl → List Vl → Mem → Option (R Vl × Mem) := fun xs ys => G_law_pick ((fun xs ys => pickL [.a 0, .a 1] xs [] [] ys) xs ys)
theorem c_law_pick_2_runs {Y : Cx} (Xf : FX Y.prog Y.K Y.mg) (Df : DX Y.K) (hr : Z.Room 2 Y.A) : Z.Runs Y (He.ga Y.K "_law_pick") 2 [] c_law_pick_2 := (z_law_pick_2 Xf Df).runs hr
/-! ### Filter.__init__ -/
def D_Filter_init : DS := (sFldD ["Filter"] "form" (dVar 1) (dVar 0))
def B_Filter_init : FD := bodyD 2 D_Filter_init
theorem sc_Filter_init : FnScope ["self", "form"] ["self", "form"] (defScope s_Filter_init) := ⟨rfl, rfl, rfl, by decide +kernel, rfl, by decide +kernel, by decide +kernel⟩
theorem ok_Filter_init {P : Program} {w : World} {K : PySem.W.Frag} {mg : Str → Option Value} {base : Heap} (Xf : FX P K mg) (Df : DX K) {fd : FuncData} (F : FunD K "__init__" "Filter.__init__" (defArgs s_Filter_init) (defBody s_Filter_init) (defScope s_Filter_init) (DZ.dvs K z0_Filter_init) (DZ.kws K z0_Filter_init) (He.ma K (He.ga K "Filter") "__init__") fd) :
    Z.FnOk P w K mg base (L2.CX P w) 1 (He.ma K (He.ga K "Filter") "__init__") fd ["self", "form"] (spZ K 2 B_Filter_init) := by
  have S := sc_Filter_init
  exact body_ok F S fun cdv A outer s H E hr => (sss_one (ss_fld (se_var (i := 0) rfl (.inl rfl)) (se_var (i := 1) rfl (.inl rfl)) Xf.a_form_Filter))
abbrev G_Filter_init : FD := B_Filter_init
theorem z_Filter_init_2 {P : Program} {w : World} {K : PySem.W.Frag} {mg : Str → Option Value} {base : Heap} (Xf : FX P K mg) (Df : DX K) : Fz P w K mg base 1 (He.ma K (He.ga K "Filter") "__init__") 2 [] (fun xs ys => pickL [.a 0, .a 1] xs [] [] ys) G_Filter_init := by
  obtain ⟨fd, F⟩ := Df.d_Filter_init
  have G0 := ok_Filter_init (P := P) (w := w) (base := base) Xf Df F
  exact fz1 F G0 2 [] [.a 0, .a 1] (fun _ _ _ _ _ _ us ws h1 h2 => match us, ws, h1, h2 with | [_, _], [], _, _ => rfl)
def m_Filter_init_2 : List Vl → List Vl → Mem → Option (R Vl × Mem) := initD "Filter" (fun xs ys => pickL [.a 0, .a 1] xs [] [] ys) G_Filter_init
theorem m_Filter_init_2_runs {Y : Cx} (Xf : FX Y.prog Y.K Y.mg) (Df : DX Y.K) (hr : Z.Room 2 Y.A) : Z.Runs Y (He.ga Y.K "Filter") 1 [] m_Filter_init_2 := (z_Filter_init_2 Xf Df).mruns Xf.n_Filter hr
def n_Filter_init_2 : List Vl → List Vl → Mem → Option (R Vl × Mem) := freshG kNone 30 m_Filter_init_2
theorem n_Filter_init_2_runs {Y : Cx} (Xf : FX Y.prog Y.K Y.mg) (Df : DX Y.K) (hr : Z.Room 2 Y.A) : Z.Runs Y (He.ga Y.K "Filter") 1 [] n_Filter_init_2 := Z.Runs.fresh (m_Filter_init_2_runs Xf Df hr) kNone 30
/-! ### Filter.everything -/
def D_Filter_everything : DS := (dRet (dCall 1 0 n_Filter_init_2 (dCons (dTup (dCons (dC (.str "all")) (fun _ m => some (.ok [], m)))) (fun _ m => some (.ok [], m))) dNone))
def B_Filter_everything : FD := bodyD 0 D_Filter_everything
theorem sc_Filter_everything : FnScope [] [] (defScope s_Filter_everything) := ⟨rfl, rfl, rfl, by decide +kernel, rfl, by decide +kernel, by decide +kernel⟩
theorem ok_Filter_everything {P : Program} {w : World} {K : PySem.W.Frag} {mg : Str → Option Value} {base : Heap} (Xf : FX P K mg) (Df : DX K) {fd : FuncData} (F : FunD K "everything" "Filter.everything" (defArgs s_Filter_everything) (defBody s_Filter_everything) (defScope s_Filter_everything) (DZ.dvs K z0_Filter_everything) (DZ.kws K z0_Filter_everything) (smA K "Filter" "everything") fd) :
    Z.FnOk P w K mg base (L2.CX P w) 3 (smA K "Filter" "everything") fd [] (spZ K 0 B_Filter_everything) := by
  have S := sc_Filter_everything
  exact body_ok F S fun cdv A outer s H E hr => (sss_one (ss_ret (se_call (n_Filter_init_2_runs Xf Df (hr.mono (by decide : 2 ≤ 2))) (Xf.n_Filter).kp Xf.g_Filter rfl (sa_cons (se_tup (sa_cons se_str sa_nil)) sa_nil))))
abbrev G_Filter_everything : FD := B_Filter_everything
theorem z_Filter_everything_0 {P : Program} {w : World} {K : PySem.W.Frag} {mg : Str → Option Value} {base : Heap} (Xf : FX P K mg) (Df : DX K) : Fz P w K mg base 3 (smA K "Filter" "everything") 0 [] (fun xs ys => pickL [] xs [] [] ys) G_Filter_everything := by
  obtain ⟨fd, F⟩ := Df.d_Filter_everything
  have G0 := ok_Filter_everything (P := P) (w := w) (base := base) Xf Df F
  exact fz1 F G0 0 [] [] (fun _ _ _ _ _ _ us ws h1 h2 => match us, ws, h1, h2 with | [], [], _, _ => rfl)
/-! ### is_column -/
def D_is_column : DS := (dRet (dAndV (dB (isiF csZ (kitT kitL)) (dCons (dVar 0) (dCons (dC (.ty "str")) (fun _ m => some (.ok [], m))))) (d2 (inA false) (dVar 0) (dTup (dCons (dC (.str "a")) (dCons (dC (.str "b")) (fun _ m => some (.ok [], m))))))))
def B_is_column : FD := bodyD 1 D_is_column
theorem sc_is_column : FnScope ["thing"] ["thing"] (defScope s_is_column) := ⟨rfl, rfl, rfl, by decide +kernel, rfl, by decide +kernel, by decide +kernel⟩
theorem ok_is_column {P : Program} {w : World} {K : PySem.W.Frag} {mg : Str → Option Value} {base : Heap} (Xf : FX P K mg) (Df : DX K) {fd : FuncData} (F : FunD K "is_column" "is_column" (defArgs s_is_column) (defBody s_is_column) (defScope s_is_column) (DZ.dvs K z0_is_column) (DZ.kws K z0_is_column) (He.ga K "is_column") fd) :
    Z.FnOk P w K mg base (L2.CX P w) 1 (He.ga K "is_column") fd ["thing"] (spZ K 1 B_is_column) := by
  have S := sc_is_column
  exact body_ok F S fun cdv A outer s H E hr => (sss_one (ss_ret (se_and (se_isi Xf.ins Xf.kit rfl Xf.f_isinstance (sa_cons (se_var (i := 0) rfl (.inl rfl)) (sa_cons (se_ty rfl Xf.f_str (by decide +kernel)) sa_nil))) (se_one (se_in (u65 hr) (se_var (i := 0) rfl (.inl rfl)) (se_tup (sa_cons se_str (sa_cons se_str sa_nil))))))))
abbrev G_is_column : FD := B_is_column
theorem z_is_column_1 {P : Program} {w : World} {K : PySem.W.Frag} {mg : Str → Option Value} {base : Heap} (Xf : FX P K mg) (Df : DX K) : Fz P w K mg base 1 (He.ga K "is_column") 1 [] (fun xs ys => pickL [.a 0] xs [] [] ys) G_is_column := by
  obtain ⟨fd, F⟩ := Df.d_is_column
  have G0 := ok_is_column (P := P) (w := w) (base := base) Xf Df F
  exact fz1 F G0 1 [] [.a 0] (fun _ _ _ _ _ _ us ws h1 h2 => match us, ws, h1, h2 with | [_], [], _, _ => rfl)
def c_is_column_1 : List Vl → List Vl → Mem → Option (R Vl × Mem) := fun xs ys => G_is_column ((fun xs ys => pickL [.a 0] xs [] [] ys) xs ys)
theorem c_is_column_1_runs {Y : Cx} (Xf : FX Y.prog Y.K Y.mg) (Df : DX Y.K) (hr : Z.Room 1 Y.A) : Z.Runs Y (He.ga Y.K "is_column") 1 [] c_is_column_1 := (z_is_column_1 Xf Df).runs hr
/-! ### Column.__init__ -/
def D_Column_init : DS := (dSeq (dIfS (tNot1 (tTr (dCall 1 0 c_is_column_1 (dCons (dVar 1) (fun _ m => some (.ok [], m))) dNone)))
  (dRaise (dMk "BadColumn" "column" (dCons (dVar 1) (fun _ m => some (.ok [], m)))))
  dNil)
  (sFldD ["Column"] "name" (dVar 1) (dVar 0)))
def B_Column_init : FD := bodyD 2 D_Column_init
theorem sc_Column_init : FnScope ["self", "name"] ["self", "name"] (defScope s_Column_init) := ⟨rfl, rfl, rfl, by decide +kernel, rfl, by decide +kernel, by decide +kernel⟩
theorem ok_Column_init {P : Program} {w : World} {K : PySem.W.Frag} {mg : Str → Option Value} {base : Heap} (Xf : FX P K mg) (Df : DX K) {fd : FuncData} (F : FunD K "__init__" "Column.__init__" (defArgs s_Column_init) (defBody s_Column_init) (defScope s_Column_init) (DZ.dvs K z0_Column_init) (DZ.kws K z0_Column_init) (He.ma K (He.ga K "Column") "__init__") fd) :
    Z.FnOk P w K mg base (L2.CX P w) 2 (He.ma K (He.ga K "Column") "__init__") fd ["self", "name"] (spZ K 2 B_Column_init) := by
  have S := sc_Column_init
  exact body_ok F S fun cdv A outer s H E hr => (sss_cons (ss_if (st_not (st_tru (se_call (c_is_column_1_runs Xf Df (hr.mono (by decide : 1 ≤ 1))) (kp_is_column Df) Xf.g_is_column rfl (sa_cons (se_var (i := 1) rfl (.inl rfl)) sa_nil))))
  (sss_one (ss_raise rfl (sm_errN Xf.e_BadColumn Xf.f_super (hr.mono (by decide : 1 ≤ 1)) Xf.g_BadColumn rfl (sa_cons (se_var (i := 1) rfl (.inl rfl)) sa_nil))))
  sss_nil)
  (sss_one (ss_fld (se_var (i := 0) rfl (.inl rfl)) (se_var (i := 1) rfl (.inl rfl)) Xf.a_name_Column)))
abbrev G_Column_init : FD := B_Column_init
theorem z_Column_init_2 {P : Program} {w : World} {K : PySem.W.Frag} {mg : Str → Option Value} {base : Heap} (Xf : FX P K mg) (Df : DX K) : Fz P w K mg base 2 (He.ma K (He.ga K "Column") "__init__") 2 [] (fun xs ys => pickL [.a 0, .a 1] xs [] [] ys) G_Column_init := by
  obtain ⟨fd, F⟩ := Df.d_Column_init
  have G0 := ok_Column_init (P := P) (w := w) (base := base) Xf Df F
  exact fz1 F G0 2 [] [.a 0, .a 1] (fun _ _ _ _ _ _ us ws h1 h2 => match us, ws, h1, h2 with | [_, _], [], _, _ => rfl)
def m_Column_init_2 : List Vl → List Vl → Mem → Option (R Vl × Mem) := initD "Column" (fun xs ys => pickL [.a 0, .a 1] xs [] [] ys) G_Column_init
theorem m_Column_init_2_runs {Y : Cx} (Xf : FX Y.prog Y.K Y.mg) (Df : DX Y.K) (hr : Z.Room 3 Y.A) : Z.Runs Y (He.ga Y.K "Column") 1 [] m_Column_init_2 := (z_Column_init_2 Xf Df).mruns Xf.n_Column hr
def n_Column_init_2 : List Vl → List Vl → Mem → Option (R Vl × Mem) := freshG kNone 30 m_Column_init_2
theorem n_Column_init_2_runs {Y : Cx} (Xf : FX Y.prog Y.K Y.mg) (Df : DX Y.K) (hr : Z.Room 3 Y.A) : Z.Runs Y (He.ga Y.K "Column") 1 [] n_Column_init_2 := Z.Runs.fresh (m_Column_init_2_runs Xf Df hr) kNone 30
/-! ### Filter.__invert__ -/
def D_Filter_invert : DS := (dRet (dCall 1 0 n_Filter_init_2 (dCons (dIf (b2 eqF (d2 ixA (dFld ["Filter"] "form" (dVar 0)) (dC (.int 0))) (dC (.str "not"))) (d2 ixA (dFld ["Filter"] "form" (dVar 0)) (dC (.int 1))) (dTup (dCons (dC (.str "not")) (dCons (dFld ["Filter"] "form" (dVar 0)) (fun _ m => some (.ok [], m)))))) (fun _ m => some (.ok [], m))) dNone))
def B_Filter_invert : FD := bodyD 1 D_Filter_invert
theorem sc_Filter_invert : FnScope ["self"] ["self"] (defScope s_Filter_invert) := ⟨rfl, rfl, rfl, by decide +kernel, rfl, by decide +kernel, by decide +kernel⟩
theorem ok_Filter_invert {P : Program} {w : World} {K : PySem.W.Frag} {mg : Str → Option Value} {base : Heap} (Xf : FX P K mg) (Df : DX K) {fd : FuncData} (F : FunD K "__invert__" "Filter.__invert__" (defArgs s_Filter_invert) (defBody s_Filter_invert) (defScope s_Filter_invert) (DZ.dvs K z0_Filter_invert) (DZ.kws K z0_Filter_invert) (He.ma K (He.ga K "Filter") "__invert__") fd) :
    Z.FnOk P w K mg base (L2.CX P w) 3 (He.ma K (He.ga K "Filter") "__invert__") fd ["self"] (spZ K 1 B_Filter_invert) := by
  have S := sc_Filter_invert
  exact body_ok F S fun cdv A outer s H E hr => (sss_one (ss_ret (se_call (n_Filter_init_2_runs Xf Df (hr.mono (by decide : 2 ≤ 2))) (Xf.n_Filter).kp Xf.g_Filter rfl (sa_cons (se_if (st_eq (u64 hr) (se_ix (se_fld (se_var (i := 0) rfl (.inl rfl)) Xf.a_form_Filter) se_int) se_str) (se_ix (se_fld (se_var (i := 0) rfl (.inl rfl)) Xf.a_form_Filter) se_int) (se_tup (sa_cons se_str (sa_cons (se_fld (se_var (i := 0) rfl (.inl rfl)) Xf.a_form_Filter) sa_nil)))) sa_nil))))
abbrev G_Filter_invert : FD := B_Filter_invert
theorem z_Filter_invert_1 {P : Program} {w : World} {K : PySem.W.Frag} {mg : Str → Option Value} {base : Heap} (Xf : FX P K mg) (Df : DX K) : Fz P w K mg base 3 (He.ma K (He.ga K "Filter") "__invert__") 1 [] (fun xs ys => pickL [.a 0] xs [] [] ys) G_Filter_invert := by
  obtain ⟨fd, F⟩ := Df.d_Filter_invert
  have G0 := ok_Filter_invert (P := P) (w := w) (base := base) Xf Df F
  exact fz1 F G0 1 [] [.a 0] (fun _ _ _ _ _ _ us ws h1 h2 => match us, ws, h1, h2 with | [_], [], _, _ => rfl)
/-! ### is_name -/
def D_is_name : DS := (dSeq (dIfS (tOr2 (tNot1 (tTr (dB (isiF csZ (kitT kitL)) (dCons (dVar 0) (dCons (dC (.ty "str")) (fun _ m => some (.ok [], m))))))) (tNot1 (tChn leI leI (dC (.int 1)) (dB lenF (dCons (dVar 0) (fun _ m => some (.ok [], m)))) (dC (.int 8)))))
  (dRet (dC (.bl false)))
  dNil)
  (dRet (dB (quant (fun l => l.all id)) (dCons (dFrz (dLc (iStrD (dVar 0)) (gcVar 1) dYes (d2 (inA false) (dVar 1) (dC (.str "abcdefghijklmnopqrstuvwxyz"))) ([("sign", 1)].map (·.2)))) (fun _ m => some (.ok [], m))))))
def B_is_name : FD := bodyD 2 D_is_name
theorem sc_is_name : FnScope ["thing", "sign"] ["thing"] (defScope s_is_name) := ⟨rfl, rfl, rfl, by decide +kernel, rfl, by decide +kernel, by decide +kernel⟩
theorem ok_is_name {P : Program} {w : World} {K : PySem.W.Frag} {mg : Str → Option Value} {base : Heap} (Xf : FX P K mg) (Df : DX K) {fd : FuncData} (F : FunD K "is_name" "is_name" (defArgs s_is_name) (defBody s_is_name) (defScope s_is_name) (DZ.dvs K z0_is_name) (DZ.kws K z0_is_name) (He.ga K "is_name") fd) :
    Z.FnOk P w K mg base (L2.CX P w) 1 (He.ga K "is_name") fd ["thing"] (spZ K 1 B_is_name) := by
  have S := sc_is_name
  exact body_ok F S fun cdv A outer s H E hr => (sss_cons (ss_if (st_w (sw_or (st_not (st_tru (se_isi Xf.ins Xf.kit rfl Xf.f_isinstance (sa_cons (se_var (i := 0) rfl (.inl rfl)) (sa_cons (se_ty rfl Xf.f_str (by decide +kernel)) sa_nil))))) (sw_or1 (st_not (st_chain op_le op_le sf_leI sf_leI se_int (se_len rfl Xf.f_len (sa_cons (se_var (i := 0) rfl (.inl rfl)) sa_nil)) se_int)))))
  (sss_one (ss_ret se_bl))
  sss_nil)
  (sss_one (ss_ret (se_all rfl rfl Xf.f_all (sa_cons (se_frz (sl_lc rfl S.nd (si_str (se_var (i := 0) rfl (.inl rfl))) (own := [("sign", 1)]) (blkOk_by rfl) (fun _ _ _ _ _ => (sgc_name (i := 1) S.nd rfl (.inl rfl))) (fun _ _ _ _ _ => sts_nil) (fun _ _ _ _ _ => (se_in (u65 hr) (se_var (i := 1) rfl (.inl rfl)) (se_con rfl Xf.k_LETTERS))))) sa_nil)))))
abbrev G_is_name : FD := B_is_name
theorem z_is_name_1 {P : Program} {w : World} {K : PySem.W.Frag} {mg : Str → Option Value} {base : Heap} (Xf : FX P K mg) (Df : DX K) : Fz P w K mg base 1 (He.ga K "is_name") 1 [] (fun xs ys => pickL [.a 0] xs [] [] ys) G_is_name := by
  obtain ⟨fd, F⟩ := Df.d_is_name
  have G0 := ok_is_name (P := P) (w := w) (base := base) Xf Df F
  exact fz1 F G0 1 [] [.a 0] (fun _ _ _ _ _ _ us ws h1 h2 => match us, ws, h1, h2 with | [_], [], _, _ => rfl)
def c_is_name_1 : List Vl → List Vl → Mem → Option (R Vl × Mem) := fun xs ys => G_is_name ((fun xs ys => pickL [.a 0] xs [] [] ys) xs ys)
theorem c_is_name_1_runs {Y : Cx} (Xf : FX Y.prog Y.K Y.mg) (Df : DX Y.K) (hr : Z.Room 1 Y.A) : Z.Runs Y (He.ga Y.K "is_name") 1 [] c_is_name_1 := (z_is_name_1 Xf Df).runs hr
/-! ### is_value -/
def D_is_value : DS := (dRet (dAndV (dB (isiF csZ (kitT kitL)) (dCons (dVar 0) (dCons (dC (.ty "int")) (fun _ m => some (.ok [], m))))) (dAndV (dNotV (dB (isiF csZ (kitT kitL)) (dCons (dVar 0) (dCons (dC (.ty "bool")) (fun _ m => some (.ok [], m)))))) (dChain leI leI (dC (.int 0)) (dVar 0) (dC (.int 999))))))
def B_is_value : FD := bodyD 1 D_is_value
theorem sc_is_value : FnScope ["thing"] ["thing"] (defScope s_is_value) := ⟨rfl, rfl, rfl, by decide +kernel, rfl, by decide +kernel, by decide +kernel⟩
theorem ok_is_value {P : Program} {w : World} {K : PySem.W.Frag} {mg : Str → Option Value} {base : Heap} (Xf : FX P K mg) (Df : DX K) {fd : FuncData} (F : FunD K "is_value" "is_value" (defArgs s_is_value) (defBody s_is_value) (defScope s_is_value) (DZ.dvs K z0_is_value) (DZ.kws K z0_is_value) (He.ga K "is_value") fd) :
    Z.FnOk P w K mg base (L2.CX P w) 1 (He.ga K "is_value") fd ["thing"] (spZ K 1 B_is_value) := by
  have S := sc_is_value
  exact body_ok F S fun cdv A outer s H E hr => (sss_one (ss_ret (se_and (se_isi Xf.ins Xf.kit rfl Xf.f_isinstance (sa_cons (se_var (i := 0) rfl (.inl rfl)) (sa_cons (se_ty rfl Xf.f_int (by decide +kernel)) sa_nil))) (se_and (se_not (se_isi Xf.ins Xf.kit rfl Xf.f_isinstance (sa_cons (se_var (i := 0) rfl (.inl rfl)) (sa_cons (se_ty rfl Xf.f_bool (by decide +kernel)) sa_nil)))) (se_one (se_ch2 op_le op_le sf_leI sf_leI se_int (se_var (i := 0) rfl (.inl rfl)) (se_con rfl Xf.k_TOP)))))))
abbrev G_is_value : FD := B_is_value
theorem z_is_value_1 {P : Program} {w : World} {K : PySem.W.Frag} {mg : Str → Option Value} {base : Heap} (Xf : FX P K mg) (Df : DX K) : Fz P w K mg base 1 (He.ga K "is_value") 1 [] (fun xs ys => pickL [.a 0] xs [] [] ys) G_is_value := by
  obtain ⟨fd, F⟩ := Df.d_is_value
  have G0 := ok_is_value (P := P) (w := w) (base := base) Xf Df F
  exact fz1 F G0 1 [] [.a 0] (fun _ _ _ _ _ _ us ws h1 h2 => match us, ws, h1, h2 with | [_], [], _, _ => rfl)
def c_is_value_1 : List Vl → List Vl → Mem → Option (R Vl × Mem) := fun xs ys => G_is_value ((fun xs ys => pickL [.a 0] xs [] [] ys) xs ys)
theorem c_is_value_1_runs {Y : Cx} (Xf : FX Y.prog Y.K Y.mg) (Df : DX Y.K) (hr : Z.Room 1 Y.A) : Z.Runs Y (He.ga Y.K "is_value") 1 [] c_is_value_1 := (z_is_value_1 Xf Df).runs hr
/-! ### Column.compared -/
def D_Column_compared : DS := (dSeq (dIfS (tAnd2 (tNot1 (tTr (dCall 1 0 c_is_value_1 (dCons (dVar 1) (fun _ m => some (.ok [], m))) dNone))) (tNot1 (tTr (dCall 1 0 c_is_name_1 (dCons (dVar 1) (fun _ m => some (.ok [], m))) dNone))))
  (dRaise (dMk "BadValue" "value" (dCons (dVar 1) (fun _ m => some (.ok [], m)))))
  dNil)
  (dRet (dCall 1 0 n_Filter_init_2 (dCons (dTup (dCons (dC (.str "is")) (dCons (dFld ["Column"] "name" (dVar 0)) (dCons (dVar 1) (fun _ m => some (.ok [], m)))))) (fun _ m => some (.ok [], m))) dNone)))
def B_Column_compared : FD := bodyD 2 D_Column_compared
theorem sc_Column_compared : FnScope ["self", "thing"] ["self", "thing"] (defScope s_Column_compared) := ⟨rfl, rfl, rfl, by decide +kernel, rfl, by decide +kernel, by decide +kernel⟩
theorem ok_Column_compared {P : Program} {w : World} {K : PySem.W.Frag} {mg : Str → Option Value} {base : Heap} (Xf : FX P K mg) (Df : DX K) {fd : FuncData} (F : FunD K "compared" "Column.compared" (defArgs s_Column_compared) (defBody s_Column_compared) (defScope s_Column_compared) (DZ.dvs K z0_Column_compared) (DZ.kws K z0_Column_compared) (He.ma K (He.ga K "Column") "compared") fd) :
    Z.FnOk P w K mg base (L2.CX P w) 3 (He.ma K (He.ga K "Column") "compared") fd ["self", "thing"] (spZ K 2 B_Column_compared) := by
  have S := sc_Column_compared
  exact body_ok F S fun cdv A outer s H E hr => (sss_cons (ss_if (st_w (sw_and (st_not (st_tru (se_call (c_is_value_1_runs Xf Df (hr.mono (by decide : 1 ≤ 2))) (kp_is_value Df) Xf.g_is_value rfl (sa_cons (se_var (i := 1) rfl (.inl rfl)) sa_nil)))) (sw_and1 (st_not (st_tru (se_call (c_is_name_1_runs Xf Df (hr.mono (by decide : 1 ≤ 2))) (kp_is_name Df) Xf.g_is_name rfl (sa_cons (se_var (i := 1) rfl (.inl rfl)) sa_nil)))))))
  (sss_one (ss_raise rfl (sm_errN Xf.e_BadValue Xf.f_super (hr.mono (by decide : 1 ≤ 2)) Xf.g_BadValue rfl (sa_cons (se_var (i := 1) rfl (.inl rfl)) sa_nil))))
  sss_nil)
  (sss_one (ss_ret (se_call (n_Filter_init_2_runs Xf Df (hr.mono (by decide : 2 ≤ 2))) (Xf.n_Filter).kp Xf.g_Filter rfl (sa_cons (se_tup (sa_cons se_str (sa_cons (se_fld (se_var (i := 0) rfl (.inl rfl)) Xf.a_name_Column) (sa_cons (se_var (i := 1) rfl (.inl rfl)) sa_nil)))) sa_nil)))))
abbrev G_Column_compared : FD := B_Column_compared
theorem z_Column_compared_2 {P : Program} {w : World} {K : PySem.W.Frag} {mg : Str → Option Value} {base : Heap} (Xf : FX P K mg) (Df : DX K) : Fz P w K mg base 3 (He.ma K (He.ga K "Column") "compared") 2 [] (fun xs ys => pickL [.a 0, .a 1] xs [] [] ys) G_Column_compared := by
  obtain ⟨fd, F⟩ := Df.d_Column_compared
  have G0 := ok_Column_compared (P := P) (w := w) (base := base) Xf Df F
  exact fz1 F G0 2 [] [.a 0, .a 1] (fun _ _ _ _ _ _ us ws h1 h2 => match us, ws, h1, h2 with | [_, _], [], _, _ => rfl)
/-! ### Column.__ne__ -/
def D_Column_ne : DS := (dRet (dInv "Filter" (fun xs ys => pickL [.a 0] xs [] [] ys) G_Filter_invert (dMeth "Column" "compared" 1 0 (fun xs ys => pickL [.a 0, .a 1] xs [] [] ys) G_Column_compared (dVar 0) (dCons (dVar 1) (fun _ m => some (.ok [], m))) dNone)))
def B_Column_ne : FD := bodyD 2 D_Column_ne
theorem sc_Column_ne : FnScope ["self", "thing"] ["self", "thing"] (defScope s_Column_ne) := ⟨rfl, rfl, rfl, by decide +kernel, rfl, by decide +kernel, by decide +kernel⟩
theorem ok_Column_ne {P : Program} {w : World} {K : PySem.W.Frag} {mg : Str → Option Value} {base : Heap} (Xf : FX P K mg) (Df : DX K) {fd : FuncData} (F : FunD K "__ne__" "Column.__ne__" (defArgs s_Column_ne) (defBody s_Column_ne) (defScope s_Column_ne) (DZ.dvs K z0_Column_ne) (DZ.kws K z0_Column_ne) (He.ma K (He.ga K "Column") "__ne__") fd) :
    Z.FnOk P w K mg base (L2.CX P w) 4 (He.ma K (He.ga K "Column") "__ne__") fd ["self", "thing"] (spZ K 2 B_Column_ne) := by
  have S := sc_Column_ne
  exact body_ok F S fun cdv A outer s H E hr => (sss_one (ss_ret (se_inv (se_meth (se_var (i := 0) rfl (.inl rfl)) Xf.c_Column Xf.m_Column_compared (z_Column_compared_2 Xf Df) (hr.mono (by decide : 3 ≤ 3)) (sa_cons (se_var (i := 1) rfl (.inl rfl)) sa_nil)) Xf.o_Filter___invert__ (z_Filter_invert_1 Xf Df) (hr.mono (by decide : 3 ≤ 3)))))
abbrev G_Column_ne : FD := B_Column_ne
theorem z_Column_ne_2 {P : Program} {w : World} {K : PySem.W.Frag} {mg : Str → Option Value} {base : Heap} (Xf : FX P K mg) (Df : DX K) : Fz P w K mg base 4 (He.ma K (He.ga K "Column") "__ne__") 2 [] (fun xs ys => pickL [.a 0, .a 1] xs [] [] ys) G_Column_ne := by
  obtain ⟨fd, F⟩ := Df.d_Column_ne
  have G0 := ok_Column_ne (P := P) (w := w) (base := base) Xf Df F
  exact fz1 F G0 2 [] [.a 0, .a 1] (fun _ _ _ _ _ _ us ws h1 h2 => match us, ws, h1, h2 with | [_, _], [], _, _ => rfl)
/-! ### Column.__eq__ -/
def D_Column_eq : DS := (dRet (dMeth "Column" "compared" 1 0 (fun xs ys => pickL [.a 0, .a 1] xs [] [] ys) G_Column_compared (dVar 0) (dCons (dVar 1) (fun _ m => some (.ok [], m))) dNone))
def B_Column_eq : FD := bodyD 2 D_Column_eq
theorem sc_Column_eq : FnScope ["self", "thing"] ["self", "thing"] (defScope s_Column_eq) := ⟨rfl, rfl, rfl, by decide +kernel, rfl, by decide +kernel, by decide +kernel⟩
theorem ok_Column_eq {P : Program} {w : World} {K : PySem.W.Frag} {mg : Str → Option Value} {base : Heap} (Xf : FX P K mg) (Df : DX K) {fd : FuncData} (F : FunD K "__eq__" "Column.__eq__" (defArgs s_Column_eq) (defBody s_Column_eq) (defScope s_Column_eq) (DZ.dvs K z0_Column_eq) (DZ.kws K z0_Column_eq) (He.ma K (He.ga K "Column") "__eq__") fd) :
    Z.FnOk P w K mg base (L2.CX P w) 4 (He.ma K (He.ga K "Column") "__eq__") fd ["self", "thing"] (spZ K 2 B_Column_eq) := by
  have S := sc_Column_eq
  exact body_ok F S fun cdv A outer s H E hr => (sss_one (ss_ret (se_meth (se_var (i := 0) rfl (.inl rfl)) Xf.c_Column Xf.m_Column_compared (z_Column_compared_2 Xf Df) (hr.mono (by decide : 3 ≤ 3)) (sa_cons (se_var (i := 1) rfl (.inl rfl)) sa_nil))))
abbrev G_Column_eq : FD := B_Column_eq
theorem z_Column_eq_2 {P : Program} {w : World} {K : PySem.W.Frag} {mg : Str → Option Value} {base : Heap} (Xf : FX P K mg) (Df : DX K) : Fz P w K mg base 4 (He.ma K (He.ga K "Column") "__eq__") 2 [] (fun xs ys => pickL [.a 0, .a 1] xs [] [] ys) G_Column_eq := by
  obtain ⟨fd, F⟩ := Df.d_Column_eq
  have G0 := ok_Column_eq (P := P) (w := w) (base := base) Xf Df F
  exact fz1 F G0 2 [] [.a 0, .a 1] (fun _ _ _ _ _ _ us ws h1 h2 => match us, ws, h1, h2 with | [_, _], [], _, _ => rfl)
/-! ### _law_leaf -/
def D_law_leaf : DS := (dSeq (dPar3 2 3 4 (dCons (dCall 2 0 c_law_draw_2 (dCons (dVar 0) (dCons (dC (.int 6)) (fun _ m => some (.ok [], m)))) dNone) (dCons (dCall 2 0 c_law_pick_2 (dCons (dVar 0) (dCons (dFrz (dLst (dCons (dC (.str "a")) (dCons (dC (.str "b")) (fun _ m => some (.ok [], m)))))) (fun _ m => some (.ok [], m)))) dNone) (dCons (dCall 2 0 c_law_pick_2 (dCons (dVar 0) (dCons (dVar 1) (fun _ m => some (.ok [], m)))) dNone) (fun _ m => some (.ok [], m))))))
  (dSeq (dIfS (b2 eqF (dVar 2) (dC (.int 0)))
  (dRet (dTup (dCons (dSMeth "Filter" 0 0 (fun xs ys => pickL [] xs [] [] ys) G_Filter_everything (dC (.glo "Filter")) dNone dNone) (dCons (dTup (dCons (dC (.str "all")) (fun _ m => some (.ok [], m)))) (fun _ m => some (.ok [], m))))))
  dNil)
  (dSeq (dIfS (b2 ltI (dVar 2) (dC (.int 3)))
  (dRet (dTup (dCons (dCmpO "Column" csZ tsZ (fun xs ys => pickL [.a 0, .a 1] xs [] [] ys) G_Column_ne (dCall 1 0 n_Column_init_2 (dCons (dVar 3) (fun _ m => some (.ok [], m))) dNone) (dVar 4)) (dCons (dTup (dCons (dC (.str "not")) (dCons (dTup (dCons (dC (.str "is")) (dCons (dVar 3) (dCons (dVar 4) (fun _ m => some (.ok [], m)))))) (fun _ m => some (.ok [], m))))) (fun _ m => some (.ok [], m))))))
  dNil)
  (dRet (dTup (dCons (dCmpO "Column" csZ tsZ (fun xs ys => pickL [.a 0, .a 1] xs [] [] ys) G_Column_eq (dCall 1 0 n_Column_init_2 (dCons (dVar 3) (fun _ m => some (.ok [], m))) dNone) (dVar 4)) (dCons (dTup (dCons (dC (.str "is")) (dCons (dVar 3) (dCons (dVar 4) (fun _ m => some (.ok [], m)))))) (fun _ m => some (.ok [], m)))))))))
def B_law_leaf : FD := bodyD 5 D_law_leaf
theorem sc_law_leaf : FnScope ["_law_bag", "_law_things", "_law_way", "_law_column", "_law_thing"] ["_law_bag", "_law_things"] (defScope s_law_leaf) := ⟨rfl, rfl, rfl, by decide +kernel, rfl, by decide +kernel, by decide +kernel⟩
theorem ok_law_leaf {P : Program} {w : World} {K : PySem.W.Frag} {mg : Str → Option Value} {base : Heap} (Xf : FX P K mg) (Df : DX K) {fd : FuncData} (F : FunD K "_law_leaf" "_law_leaf" (defArgs s_law_leaf) (defBody s_law_leaf) (defScope s_law_leaf) (DZ.dvs K z0_law_leaf) (DZ.kws K z0_law_leaf) (He.ga K "_law_leaf") fd) :
    Z.FnOk P w K mg base (L2.CX P w) 5 (He.ga K "_law_leaf") fd ["_law_bag", "_law_things"] (spZ K 2 B_law_leaf) := by
  have S := sc_law_leaf
  exact body_ok F S fun cdv A outer s H E hr => (sss_cons (ss_par3 (i := 2) (j := 3) (l := 4) rfl S.nd rfl rfl rfl (by decide) (by decide) (by decide) rfl rfl rfl (sa_cons (se_call (c_law_draw_2_runs Xf Df (hr.mono (by decide : 1 ≤ 4))) (kp_law_draw Df) Xf.g__law_draw rfl (sa_cons (se_var (i := 0) rfl (.inl rfl)) (sa_cons se_int sa_nil))) (sa_cons (se_call (c_law_pick_2_runs Xf Df (hr.mono (by decide : 2 ≤ 4))) (kp_law_pick Df) Xf.g__law_pick rfl (sa_cons (se_var (i := 0) rfl (.inl rfl)) (sa_cons (se_frz (sl_lst (sa_cons se_str (sa_cons se_str sa_nil)))) sa_nil))) (sa_cons (se_call (c_law_pick_2_runs Xf Df (hr.mono (by decide : 2 ≤ 4))) (kp_law_pick Df) Xf.g__law_pick rfl (sa_cons (se_var (i := 0) rfl (.inl rfl)) (sa_cons (se_var (i := 1) rfl (.inl rfl)) sa_nil))) sa_nil))) (by rfl))
  (sss_cons (ss_if (st_eq (u64 hr) (se_var (i := 2) rfl (.inl rfl)) se_int)
  (sss_one (ss_ret (se_tup (sa_cons (se_smeth0 (se_glo rfl Xf.g_Filter) Xf.sm_Filter_everything (z_Filter_everything_0 Xf Df) (hr.mono (by decide : 3 ≤ 4))) (sa_cons (se_tup (sa_cons se_str sa_nil)) sa_nil)))))
  sss_nil)
  (sss_cons (ss_if (st_lt (se_var (i := 2) rfl (.inl rfl)) se_int)
  (sss_one (ss_ret (se_tup (sa_cons (se_neO Xf.ins Xf.o_Column___ne__ (z_Column_ne_2 Xf Df) (hr.mono (by decide : 4 ≤ 4)) (se_call (n_Column_init_2_runs Xf Df (hr.mono (by decide : 3 ≤ 4))) (Xf.n_Column).kp Xf.g_Column rfl (sa_cons (se_var (i := 3) rfl (.inl rfl)) sa_nil)) (se_var (i := 4) rfl (.inl rfl))) (sa_cons (se_tup (sa_cons se_str (sa_cons (se_tup (sa_cons se_str (sa_cons (se_var (i := 3) rfl (.inl rfl)) (sa_cons (se_var (i := 4) rfl (.inl rfl)) sa_nil)))) sa_nil))) sa_nil)))))
  sss_nil)
  (sss_one (ss_ret (se_tup (sa_cons (se_eqO Xf.ins Xf.o_Column___eq__ (z_Column_eq_2 Xf Df) (hr.mono (by decide : 4 ≤ 4)) (se_call (n_Column_init_2_runs Xf Df (hr.mono (by decide : 3 ≤ 4))) (Xf.n_Column).kp Xf.g_Column rfl (sa_cons (se_var (i := 3) rfl (.inl rfl)) sa_nil)) (se_var (i := 4) rfl (.inl rfl))) (sa_cons (se_tup (sa_cons se_str (sa_cons (se_var (i := 3) rfl (.inl rfl)) (sa_cons (se_var (i := 4) rfl (.inl rfl)) sa_nil)))) sa_nil))))))))
abbrev G_law_leaf : FD := B_law_leaf
theorem z_law_leaf_2 {P : Program} {w : World} {K : PySem.W.Frag} {mg : Str → Option Value} {base : Heap} (Xf : FX P K mg) (Df : DX K) : Fz P w K mg base 5 (He.ga K "_law_leaf") 2 [] (fun xs ys => pickL [.a 0, .a 1] xs [] [] ys) G_law_leaf := by
  obtain ⟨fd, F⟩ := Df.d_law_leaf
  have G0 := ok_law_leaf (P := P) (w := w) (base := base) Xf Df F
  exact fz1 F G0 2 [] [.a 0, .a 1] (fun _ _ _ _ _ _ us ws h1 h2 => match us, ws, h1, h2 with | [_, _], [], _, _ => rfl)
def c_law_leaf_2 : List Vl → List Vl → Mem → Option (R Vl × Mem) := fun xs ys => G_law_leaf ((fun xs ys => pickL [.a 0, .a 1] xs [] [] ys) xs ys)
theorem c_law_leaf_2_runs {Y : Cx} (Xf : FX Y.prog Y.K Y.mg) (Df : DX Y.K) (hr : Z.Room 5 Y.A) : Z.Runs Y (He.ga Y.K "_law_leaf") 2 [] c_law_leaf_2 := (z_law_leaf_2 Xf Df).runs hr
/-! ### _law_inverted -/
def D_law_inverted : DS := (dRet (dTup (dCons (dInv "Filter" (fun xs ys => pickL [.a 0] xs [] [] ys) G_Filter_invert (d2 ixA (dVar 0) (dC (.int 0)))) (dCons (dIf (b2 eqF (d2 ixA (d2 ixA (dVar 0) (dC (.int 1))) (dC (.int 0))) (dC (.str "not"))) (d2 ixA (d2 ixA (dVar 0) (dC (.int 1))) (dC (.int 1))) (dTup (dCons (dC (.str "not")) (dCons (d2 ixA (dVar 0) (dC (.int 1))) (fun _ m => some (.ok [], m)))))) (fun _ m => some (.ok [], m))))))
def B_law_inverted : FD := bodyD 1 D_law_inverted
theorem sc_law_inverted : FnScope ["_law_one"] ["_law_one"] (defScope s_law_inverted) := ⟨rfl, rfl, rfl, by decide +kernel, rfl, by decide +kernel, by decide +kernel⟩
theorem ok_law_inverted {P : Program} {w : World} {K : PySem.W.Frag} {mg : Str → Option Value} {base : Heap} (Xf : FX P K mg) (Df : DX K) {fd : FuncData} (F : FunD K "_law_inverted" "_law_inverted" (defArgs s_law_inverted) (defBody s_law_inverted) (defScope s_law_inverted) (DZ.dvs K z0_law_inverted) (DZ.kws K z0_law_inverted) (He.ga K "_law_inverted") fd) :
    Z.FnOk P w K mg base (L2.CX P w) 4 (He.ga K "_law_inverted") fd ["_law_one"] (spZ K 1 B_law_inverted) := by
  have S := sc_law_inverted
  exact body_ok F S fun cdv A outer s H E hr => (sss_one (ss_ret (se_tup (sa_cons (se_inv (se_ix (se_var (i := 0) rfl (.inl rfl)) se_int) Xf.o_Filter___invert__ (z_Filter_invert_1 Xf Df) (hr.mono (by decide : 3 ≤ 3))) (sa_cons (se_if (st_eq (u64 hr) (se_ix (se_ix (se_var (i := 0) rfl (.inl rfl)) se_int) se_int) se_str) (se_ix (se_ix (se_var (i := 0) rfl (.inl rfl)) se_int) se_int) (se_tup (sa_cons se_str (sa_cons (se_ix (se_var (i := 0) rfl (.inl rfl)) se_int) sa_nil)))) sa_nil)))))
abbrev G_law_inverted : FD := B_law_inverted
theorem z_law_inverted_1 {P : Program} {w : World} {K : PySem.W.Frag} {mg : Str → Option Value} {base : Heap} (Xf : FX P K mg) (Df : DX K) : Fz P w K mg base 4 (He.ga K "_law_inverted") 1 [] (fun xs ys => pickL [.a 0] xs [] [] ys) G_law_inverted := by
  obtain ⟨fd, F⟩ := Df.d_law_inverted
  have G0 := ok_law_inverted (P := P) (w := w) (base := base) Xf Df F
  exact fz1 F G0 1 [] [.a 0] (fun _ _ _ _ _ _ us ws h1 h2 => match us, ws, h1, h2 with | [_], [], _, _ => rfl)
def c_law_inverted_1 : List Vl → List Vl → Mem → Option (R Vl × Mem) := fun xs ys => G_law_inverted ((fun xs ys => pickL [.a 0] xs [] [] ys) xs ys)
theorem c_law_inverted_1_runs {Y : Cx} (Xf : FX Y.prog Y.K Y.mg) (Df : DX Y.K) (hr : Z.Room 4 Y.A) : Z.Runs Y (He.ga Y.K "_law_inverted") 1 [] c_law_inverted_1 := (z_law_inverted_1 Xf Df).runs hr
/-! ### parts_of -/
def D_parts_of (cs : List Vl → List Vl → Mem → Option (R Vl × Mem)) : DS := (dSeq (dIfS (b2 (inA false) (d2 ixA (dVar 0) (dC (.int 0))) (dTup (dCons (dC (.str "and")) (dCons (dC (.str "or")) (fun _ m => some (.ok [], m))))))
  (dRet (d2 addA (dCall 1 0 cs (dCons (d2 ixA (dVar 0) (dC (.int 1))) (fun _ m => some (.ok [], m))) dNone) (dCall 1 0 cs (dCons (d2 ixA (dVar 0) (dC (.int 2))) (fun _ m => some (.ok [], m))) dNone)))
  dNil)
  (dRet (dIf (b2 eqF (d2 ixA (dVar 0) (dC (.int 0))) (dC (.str "not"))) (dCall 1 0 cs (dCons (d2 ixA (dVar 0) (dC (.int 1))) (fun _ m => some (.ok [], m))) dNone) (dC (.int 1)))))
def B_parts_of : Nat → FD
  | 0 => fun _ _ => none
  | n + 1 => bodyD 1 (D_parts_of (fun xs ys => B_parts_of n ((fun xs ys => pickL [.a 0] xs [] [] ys) xs ys)))
theorem sc_parts_of : FnScope ["form"] ["form"] (defScope s_parts_of) := ⟨rfl, rfl, rfl, by decide +kernel, rfl, by decide +kernel, by decide +kernel⟩
theorem ok_parts_of {P : Program} {w : World} {K : PySem.W.Frag} {mg : Str → Option Value} {base : Heap} (Xf : FX P K mg) (Df : DX K) {fd : FuncData} (F : FunD K "parts_of" "parts_of" (defArgs s_parts_of) (defBody s_parts_of) (defScope s_parts_of) (DZ.dvs K z0_parts_of) (DZ.kws K z0_parts_of) (He.ga K "parts_of") fd) :
    ∀ n : Nat, Z.FnOk P w K mg base (L2.CX P w) (0 + n) (He.ga K "parts_of") fd ["form"] (spZ K 1 (B_parts_of n))
  | 0 => fnOk_none
  | n + 1 => by
    have S := sc_parts_of
    have zr := fz1 F (ok_parts_of (P := P) (w := w) (base := base) Xf Df F n) 1 [] [.a 0] (fun _ _ _ _ _ _ us ws h1 h2 => match us, ws, h1, h2 with | [_], [], _, _ => rfl)
    exact body_ok F S fun cdv A outer s H E hr => (sss_cons (ss_if (st_in (u65 hr) (se_ix (se_var (i := 0) rfl (.inl rfl)) se_int) (se_tup (sa_cons se_str (sa_cons se_str sa_nil))))
  (sss_one (ss_ret (se_add (se_call (zr.runs hr) (kp_parts_of Df) Xf.g_parts_of rfl (sa_cons (se_ix (se_var (i := 0) rfl (.inl rfl)) se_int) sa_nil)) (se_call (zr.runs hr) (kp_parts_of Df) Xf.g_parts_of rfl (sa_cons (se_ix (se_var (i := 0) rfl (.inl rfl)) se_int) sa_nil)))))
  sss_nil)
  (sss_one (ss_ret (se_if (st_eq (u64 hr) (se_ix (se_var (i := 0) rfl (.inl rfl)) se_int) se_str) (se_call (zr.runs hr) (kp_parts_of Df) Xf.g_parts_of rfl (sa_cons (se_ix (se_var (i := 0) rfl (.inl rfl)) se_int) sa_nil)) se_int))))
abbrev G_parts_of : FD := B_parts_of 40
theorem z_parts_of_1 {P : Program} {w : World} {K : PySem.W.Frag} {mg : Str → Option Value} {base : Heap} (Xf : FX P K mg) (Df : DX K) : Fz P w K mg base 40 (He.ga K "parts_of") 1 [] (fun xs ys => pickL [.a 0] xs [] [] ys) G_parts_of := by
  obtain ⟨fd, F⟩ := Df.d_parts_of
  have G0 := ok_parts_of (P := P) (w := w) (base := base) Xf Df F 40
  exact fz1 F G0 1 [] [.a 0] (fun _ _ _ _ _ _ us ws h1 h2 => match us, ws, h1, h2 with | [_], [], _, _ => rfl)
def c_parts_of_1 : List Vl → List Vl → Mem → Option (R Vl × Mem) := fun xs ys => G_parts_of ((fun xs ys => pickL [.a 0] xs [] [] ys) xs ys)
theorem c_parts_of_1_runs {Y : Cx} (Xf : FX Y.prog Y.K Y.mg) (Df : DX Y.K) (hr : Z.Room 40 Y.A) : Z.Runs Y (He.ga Y.K "parts_of") 1 [] c_parts_of_1 := (z_parts_of_1 Xf Df).runs hr
/-! ### Filter.joined -/
def D_Filter_joined : DS := (dSeq (dIfS (tNot1 (tTr (dB (isiF csZ (kitT kitL)) (dCons (dVar 2) (dCons (dC (.glo "Filter")) (fun _ m => some (.ok [], m)))))))
  (dRaise (dMk "BadFilter" "thing" (dCons (dVar 2) (fun _ m => some (.ok [], m)))))
  dNil)
  (dSeq (dIfS (b2 gtI (d2 addA (dCall 1 0 c_parts_of_1 (dCons (dFld ["Filter"] "form" (dVar 0)) (fun _ m => some (.ok [], m))) dNone) (dCall 1 0 c_parts_of_1 (dCons (dFld ["Filter"] "form" (dVar 2)) (fun _ m => some (.ok [], m))) dNone)) (dC (.int 8)))
  (dRaise (dMk "TooMany" "limit" (dCons (dC (.int 8)) (fun _ m => some (.ok [], m)))))
  dNil)
  (dRet (dCall 1 0 n_Filter_init_2 (dCons (dTup (dCons (dVar 1) (dCons (dFld ["Filter"] "form" (dVar 0)) (dCons (dFld ["Filter"] "form" (dVar 2)) (fun _ m => some (.ok [], m)))))) (fun _ m => some (.ok [], m))) dNone))))
def B_Filter_joined : FD := bodyD 3 D_Filter_joined
theorem sc_Filter_joined : FnScope ["self", "word", "other"] ["self", "word", "other"] (defScope s_Filter_joined) := ⟨rfl, rfl, rfl, by decide +kernel, rfl, by decide +kernel, by decide +kernel⟩
theorem ok_Filter_joined {P : Program} {w : World} {K : PySem.W.Frag} {mg : Str → Option Value} {base : Heap} (Xf : FX P K mg) (Df : DX K) {fd : FuncData} (F : FunD K "joined" "Filter.joined" (defArgs s_Filter_joined) (defBody s_Filter_joined) (defScope s_Filter_joined) (DZ.dvs K z0_Filter_joined) (DZ.kws K z0_Filter_joined) (He.ma K (He.ga K "Filter") "joined") fd) :
    Z.FnOk P w K mg base (L2.CX P w) 41 (He.ma K (He.ga K "Filter") "joined") fd ["self", "word", "other"] (spZ K 3 B_Filter_joined) := by
  have S := sc_Filter_joined
  exact body_ok F S fun cdv A outer s H E hr => (sss_cons (ss_if (st_not (st_tru (se_isi Xf.ins Xf.kit rfl Xf.f_isinstance (sa_cons (se_var (i := 2) rfl (.inl rfl)) (sa_cons (se_glo rfl Xf.g_Filter) sa_nil)))))
  (sss_one (ss_raise rfl (sm_errN Xf.e_BadFilter Xf.f_super (hr.mono (by decide : 1 ≤ 40)) Xf.g_BadFilter rfl (sa_cons (se_var (i := 2) rfl (.inl rfl)) sa_nil))))
  sss_nil)
  (sss_cons (ss_if (st_gt (se_add (se_call (c_parts_of_1_runs Xf Df (hr.mono (by decide : 40 ≤ 40))) (kp_parts_of Df) Xf.g_parts_of rfl (sa_cons (se_fld (se_var (i := 0) rfl (.inl rfl)) Xf.a_form_Filter) sa_nil)) (se_call (c_parts_of_1_runs Xf Df (hr.mono (by decide : 40 ≤ 40))) (kp_parts_of Df) Xf.g_parts_of rfl (sa_cons (se_fld (se_var (i := 2) rfl (.inl rfl)) Xf.a_form_Filter) sa_nil))) (se_con rfl Xf.k_PARTS))
  (sss_one (ss_raise rfl (sm_errN Xf.e_TooMany Xf.f_super (hr.mono (by decide : 1 ≤ 40)) Xf.g_TooMany rfl (sa_cons (se_con rfl Xf.k_PARTS) sa_nil))))
  sss_nil)
  (sss_one (ss_ret (se_call (n_Filter_init_2_runs Xf Df (hr.mono (by decide : 2 ≤ 40))) (Xf.n_Filter).kp Xf.g_Filter rfl (sa_cons (se_tup (sa_cons (se_var (i := 1) rfl (.inl rfl)) (sa_cons (se_fld (se_var (i := 0) rfl (.inl rfl)) Xf.a_form_Filter) (sa_cons (se_fld (se_var (i := 2) rfl (.inl rfl)) Xf.a_form_Filter) sa_nil)))) sa_nil))))))
abbrev G_Filter_joined : FD := B_Filter_joined
theorem z_Filter_joined_3 {P : Program} {w : World} {K : PySem.W.Frag} {mg : Str → Option Value} {base : Heap} (Xf : FX P K mg) (Df : DX K) : Fz P w K mg base 41 (He.ma K (He.ga K "Filter") "joined") 3 [] (fun xs ys => pickL [.a 0, .a 1, .a 2] xs [] [] ys) G_Filter_joined := by
  obtain ⟨fd, F⟩ := Df.d_Filter_joined
  have G0 := ok_Filter_joined (P := P) (w := w) (base := base) Xf Df F
  exact fz1 F G0 3 [] [.a 0, .a 1, .a 2] (fun _ _ _ _ _ _ us ws h1 h2 => match us, ws, h1, h2 with | [_, _, _], [], _, _ => rfl)
/-! ### Filter.__and__ -/
def D_Filter_and : DS := (dRet (dMeth "Filter" "joined" 2 0 (fun xs ys => pickL [.a 0, .a 1, .a 2] xs [] [] ys) G_Filter_joined (dVar 0) (dCons (dC (.str "and")) (dCons (dVar 1) (fun _ m => some (.ok [], m)))) dNone))
def B_Filter_and : FD := bodyD 2 D_Filter_and
theorem sc_Filter_and : FnScope ["self", "other"] ["self", "other"] (defScope s_Filter_and) := ⟨rfl, rfl, rfl, by decide +kernel, rfl, by decide +kernel, by decide +kernel⟩
theorem ok_Filter_and {P : Program} {w : World} {K : PySem.W.Frag} {mg : Str → Option Value} {base : Heap} (Xf : FX P K mg) (Df : DX K) {fd : FuncData} (F : FunD K "__and__" "Filter.__and__" (defArgs s_Filter_and) (defBody s_Filter_and) (defScope s_Filter_and) (DZ.dvs K z0_Filter_and) (DZ.kws K z0_Filter_and) (He.ma K (He.ga K "Filter") "__and__") fd) :
    Z.FnOk P w K mg base (L2.CX P w) 42 (He.ma K (He.ga K "Filter") "__and__") fd ["self", "other"] (spZ K 2 B_Filter_and) := by
  have S := sc_Filter_and
  exact body_ok F S fun cdv A outer s H E hr => (sss_one (ss_ret (se_meth (se_var (i := 0) rfl (.inl rfl)) Xf.c_Filter Xf.m_Filter_joined (z_Filter_joined_3 Xf Df) (hr.mono (by decide : 41 ≤ 41)) (sa_cons se_str (sa_cons (se_var (i := 1) rfl (.inl rfl)) sa_nil)))))
abbrev G_Filter_and : FD := B_Filter_and
theorem z_Filter_and_2 {P : Program} {w : World} {K : PySem.W.Frag} {mg : Str → Option Value} {base : Heap} (Xf : FX P K mg) (Df : DX K) : Fz P w K mg base 42 (He.ma K (He.ga K "Filter") "__and__") 2 [] (fun xs ys => pickL [.a 0, .a 1] xs [] [] ys) G_Filter_and := by
  obtain ⟨fd, F⟩ := Df.d_Filter_and
  have G0 := ok_Filter_and (P := P) (w := w) (base := base) Xf Df F
  exact fz1 F G0 2 [] [.a 0, .a 1] (fun _ _ _ _ _ _ us ws h1 h2 => match us, ws, h1, h2 with | [_, _], [], _, _ => rfl)
/-! ### Filter.__or__ -/
def D_Filter_or : DS := (dRet (dMeth "Filter" "joined" 2 0 (fun xs ys => pickL [.a 0, .a 1, .a 2] xs [] [] ys) G_Filter_joined (dVar 0) (dCons (dC (.str "or")) (dCons (dVar 1) (fun _ m => some (.ok [], m)))) dNone))
def B_Filter_or : FD := bodyD 2 D_Filter_or
theorem sc_Filter_or : FnScope ["self", "other"] ["self", "other"] (defScope s_Filter_or) := ⟨rfl, rfl, rfl, by decide +kernel, rfl, by decide +kernel, by decide +kernel⟩
theorem ok_Filter_or {P : Program} {w : World} {K : PySem.W.Frag} {mg : Str → Option Value} {base : Heap} (Xf : FX P K mg) (Df : DX K) {fd : FuncData} (F : FunD K "__or__" "Filter.__or__" (defArgs s_Filter_or) (defBody s_Filter_or) (defScope s_Filter_or) (DZ.dvs K z0_Filter_or) (DZ.kws K z0_Filter_or) (He.ma K (He.ga K "Filter") "__or__") fd) :
    Z.FnOk P w K mg base (L2.CX P w) 42 (He.ma K (He.ga K "Filter") "__or__") fd ["self", "other"] (spZ K 2 B_Filter_or) := by
  have S := sc_Filter_or
  exact body_ok F S fun cdv A outer s H E hr => (sss_one (ss_ret (se_meth (se_var (i := 0) rfl (.inl rfl)) Xf.c_Filter Xf.m_Filter_joined (z_Filter_joined_3 Xf Df) (hr.mono (by decide : 41 ≤ 41)) (sa_cons se_str (sa_cons (se_var (i := 1) rfl (.inl rfl)) sa_nil)))))
abbrev G_Filter_or : FD := B_Filter_or
theorem z_Filter_or_2 {P : Program} {w : World} {K : PySem.W.Frag} {mg : Str → Option Value} {base : Heap} (Xf : FX P K mg) (Df : DX K) : Fz P w K mg base 42 (He.ma K (He.ga K "Filter") "__or__") 2 [] (fun xs ys => pickL [.a 0, .a 1] xs [] [] ys) G_Filter_or := by
  obtain ⟨fd, F⟩ := Df.d_Filter_or
  have G0 := ok_Filter_or (P := P) (w := w) (base := base) Xf Df F
  exact fz1 F G0 2 [] [.a 0, .a 1] (fun _ _ _ _ _ _ us ws h1 h2 => match us, ws, h1, h2 with | [_, _], [], _, _ => rfl)
/-! ### _law_chosen -/
def D_law_chosen_0 : DS := (dAsgL 3 true (dLc (iRg1 (dCons (dVar 1) (fun _ m => some (.ok [], m)))) (gcVar 4) dYes (dCall 2 0 c_law_leaf_2 (dCons (dVar 0) (dCons (dVar 2) (fun _ m => some (.ok [], m)))) dNone) ([("_law_turn", 4)].map (·.2))))
def D_law_chosen_1_0 : DS := (dAsg 5 (dM "list" (lstM popH) (dVar 3) (dCons (dCall 2 0 c_law_draw_2 (dCons (dVar 0) (dCons (dB lenF (dCons (dVar 3) (fun _ m => some (.ok [], m)))) (fun _ m => some (.ok [], m)))) dNone) (fun _ m => some (.ok [], m)))))
def D_law_chosen_1_1 : DS := (dAsg 6 (dM "list" (lstM popH) (dVar 3) (dCons (dCall 2 0 c_law_draw_2 (dCons (dVar 0) (dCons (dB lenF (dCons (dVar 3) (fun _ m => some (.ok [], m)))) (fun _ m => some (.ok [], m)))) dNone) (fun _ m => some (.ok [], m)))))
def D_law_chosen_1_2_0 : DS := (dAsg 5 (dCall 1 0 c_law_inverted_1 (dCons (dVar 5) (fun _ m => some (.ok [], m))) dNone))
def D_law_chosen_1_2 : DS := (dIfS (b2 eqF (dCall 2 0 c_law_draw_2 (dCons (dVar 0) (dCons (dC (.int 3)) (fun _ m => some (.ok [], m)))) dNone) (dC (.int 0)))
  D_law_chosen_1_2_0
  dNil)
def D_law_chosen_1_3_0 : DS := (dDrop (dM "list" (lstM appH) (dVar 3) (dCons (dTup (dCons (dBinC "Filter" (fun xs ys => pickL [.a 0, .a 1] xs [] [] ys) G_Filter_and (d2 ixA (dVar 5) (dC (.int 0))) (d2 ixA (dVar 6) (dC (.int 0)))) (dCons (dTup (dCons (dC (.str "and")) (dCons (d2 ixA (dVar 5) (dC (.int 1))) (dCons (d2 ixA (dVar 6) (dC (.int 1))) (fun _ m => some (.ok [], m)))))) (fun _ m => some (.ok [], m))))) (fun _ m => some (.ok [], m)))))
def D_law_chosen_1_3_100 : DS := (dDrop (dM "list" (lstM appH) (dVar 3) (dCons (dTup (dCons (dBinC "Filter" (fun xs ys => pickL [.a 0, .a 1] xs [] [] ys) G_Filter_or (d2 ixA (dVar 5) (dC (.int 0))) (d2 ixA (dVar 6) (dC (.int 0)))) (dCons (dTup (dCons (dC (.str "or")) (dCons (d2 ixA (dVar 5) (dC (.int 1))) (dCons (d2 ixA (dVar 6) (dC (.int 1))) (fun _ m => some (.ok [], m)))))) (fun _ m => some (.ok [], m))))) (fun _ m => some (.ok [], m)))))
def D_law_chosen_1_3 : DS := (dIfS (b2 eqF (dCall 2 0 c_law_draw_2 (dCons (dVar 0) (dCons (dC (.int 2)) (fun _ m => some (.ok [], m)))) dNone) (dC (.int 0)))
  D_law_chosen_1_3_0
  D_law_chosen_1_3_100)
def D_law_chosen_1 : DS := (dFor (iRg1 (dCons (d2 subI (dVar 1) (dC (.int 1))) (fun _ m => some (.ok [], m)))) (gVar 4)
  (dSeq D_law_chosen_1_0
  (dSeq D_law_chosen_1_1
  (dSeq D_law_chosen_1_2
  D_law_chosen_1_3))))
def D_law_chosen_2 : DS := (dRet (dIf (b2 eqF (dCall 2 0 c_law_draw_2 (dCons (dVar 0) (dCons (dC (.int 4)) (fun _ m => some (.ok [], m)))) dNone) (dC (.int 0))) (dCall 1 0 c_law_inverted_1 (dCons (d2 ixA (dVar 3) (dC (.int 0))) (fun _ m => some (.ok [], m))) dNone) (d2 ixA (dVar 3) (dC (.int 0)))))
def D_law_chosen : DS := (dSeq D_law_chosen_0
  (dSeq D_law_chosen_1
  D_law_chosen_2))
def B_law_chosen : FD := bodyD 7 D_law_chosen
theorem sc_law_chosen : FnScope ["_law_bag", "_law_many", "_law_things", "_law_pool", "_law_turn", "_law_one", "_law_other"] ["_law_bag", "_law_many", "_law_things"] (defScope s_law_chosen) := ⟨rfl, rfl, rfl, by decide +kernel, rfl, by decide +kernel, by decide +kernel⟩
theorem ok_law_chosen {P : Program} {w : World} {K : PySem.W.Frag} {mg : Str → Option Value} {base : Heap} (Xf : FX P K mg) (Df : DX K) {fd : FuncData} (F : FunD K "_law_chosen" "_law_chosen" (defArgs s_law_chosen) (defBody s_law_chosen) (defScope s_law_chosen) (DZ.dvs K z0_law_chosen) (DZ.kws K z0_law_chosen) (He.ga K "_law_chosen") fd) :
    Z.FnOk P w K mg base (L2.CX P w) 43 (He.ga K "_law_chosen") fd ["_law_bag", "_law_many", "_law_things"] (spZ K 3 B_law_chosen) := by
  have S := sc_law_chosen
  exact body_ok F S fun cdv A outer s H E hr => (sss_cons (ss_setLc (i := 3) (cell := true) rfl S.nd rfl rfl (by rfl) (si_range1 rfl Xf.f_range (sa_cons (se_var (i := 1) rfl (.inl rfl)) sa_nil)) (own := [("_law_turn", 4)]) (blkOk_by rfl) (fun _ _ _ _ _ => (sgc_name (i := 4) S.nd rfl (.inl rfl))) (fun _ _ _ _ _ => sts_nil) (fun _ _ _ _ _ => (se_call (c_law_leaf_2_runs Xf Df (hr.mono (by decide : 5 ≤ 42))) (kp_law_leaf Df) Xf.g__law_leaf rfl (sa_cons (se_var (i := 0) rfl (.inr (.inl rfl))) (sa_cons (se_var (i := 2) rfl (.inr (.inl rfl))) sa_nil)))))
  (sss_cons (ss_for (passes_of rfl) rfl (si_range1 rfl Xf.f_range (sa_cons (se_sub (se_var (i := 1) rfl (.inl rfl)) se_int) sa_nil)) (sg_name (i := 4) S.nd rfl (.inl rfl))
  (sss_cons (ss_set (i := 5) S.nd rfl (.inl rfl) (se_popAt (se_var (i := 3) rfl (.inl rfl)) (sa_cons (se_call (c_law_draw_2_runs Xf Df (hr.mono (by decide : 1 ≤ 42))) (kp_law_draw Df) Xf.g__law_draw rfl (sa_cons (se_var (i := 0) rfl (.inr (.inl rfl))) (sa_cons (se_len rfl Xf.f_len (sa_cons (se_var (i := 3) rfl (.inl rfl)) sa_nil)) sa_nil))) sa_nil)))
  (sss_cons (ss_set (i := 6) S.nd rfl (.inl rfl) (se_popAt (se_var (i := 3) rfl (.inl rfl)) (sa_cons (se_call (c_law_draw_2_runs Xf Df (hr.mono (by decide : 1 ≤ 42))) (kp_law_draw Df) Xf.g__law_draw rfl (sa_cons (se_var (i := 0) rfl (.inr (.inl rfl))) (sa_cons (se_len rfl Xf.f_len (sa_cons (se_var (i := 3) rfl (.inl rfl)) sa_nil)) sa_nil))) sa_nil)))
  (sss_cons (ss_if (st_eq (u64 hr) (se_call (c_law_draw_2_runs Xf Df (hr.mono (by decide : 1 ≤ 42))) (kp_law_draw Df) Xf.g__law_draw rfl (sa_cons (se_var (i := 0) rfl (.inr (.inl rfl))) (sa_cons se_int sa_nil))) se_int)
  (sss_one (ss_set (i := 5) S.nd rfl (.inl rfl) (se_call (c_law_inverted_1_runs Xf Df (hr.mono (by decide : 4 ≤ 42))) (kp_law_inverted Df) Xf.g__law_inverted rfl (sa_cons (se_var (i := 5) rfl (.inl rfl)) sa_nil))))
  sss_nil)
  (sss_one (ss_if (st_eq (u64 hr) (se_call (c_law_draw_2_runs Xf Df (hr.mono (by decide : 1 ≤ 42))) (kp_law_draw Df) Xf.g__law_draw rfl (sa_cons (se_var (i := 0) rfl (.inr (.inl rfl))) (sa_cons se_int sa_nil))) se_int)
  (sss_one (ss_expr (se_append (se_var (i := 3) rfl (.inl rfl)) (sa_cons (se_tup (sa_cons (se_binC Xf.b_Filter___and__ (z_Filter_and_2 Xf Df) (hr.mono (by decide : 42 ≤ 42)) (se_ix (se_var (i := 5) rfl (.inl rfl)) se_int) (se_ix (se_var (i := 6) rfl (.inl rfl)) se_int)) (sa_cons (se_tup (sa_cons se_str (sa_cons (se_ix (se_var (i := 5) rfl (.inl rfl)) se_int) (sa_cons (se_ix (se_var (i := 6) rfl (.inl rfl)) se_int) sa_nil)))) sa_nil))) sa_nil))))
  (sss_one (ss_expr (se_append (se_var (i := 3) rfl (.inl rfl)) (sa_cons (se_tup (sa_cons (se_binC Xf.b_Filter___or__ (z_Filter_or_2 Xf Df) (hr.mono (by decide : 42 ≤ 42)) (se_ix (se_var (i := 5) rfl (.inl rfl)) se_int) (se_ix (se_var (i := 6) rfl (.inl rfl)) se_int)) (sa_cons (se_tup (sa_cons se_str (sa_cons (se_ix (se_var (i := 5) rfl (.inl rfl)) se_int) (sa_cons (se_ix (se_var (i := 6) rfl (.inl rfl)) se_int) sa_nil)))) sa_nil))) sa_nil))))))))))
  (sss_one (ss_ret (se_if (st_eq (u64 hr) (se_call (c_law_draw_2_runs Xf Df (hr.mono (by decide : 1 ≤ 42))) (kp_law_draw Df) Xf.g__law_draw rfl (sa_cons (se_var (i := 0) rfl (.inr (.inl rfl))) (sa_cons se_int sa_nil))) se_int) (se_call (c_law_inverted_1_runs Xf Df (hr.mono (by decide : 4 ≤ 42))) (kp_law_inverted Df) Xf.g__law_inverted rfl (sa_cons (se_ix (se_var (i := 3) rfl (.inl rfl)) se_int) sa_nil)) (se_ix (se_var (i := 3) rfl (.inl rfl)) se_int))))))
abbrev G_law_chosen : FD := B_law_chosen
theorem z_law_chosen_3 {P : Program} {w : World} {K : PySem.W.Frag} {mg : Str → Option Value} {base : Heap} (Xf : FX P K mg) (Df : DX K) : Fz P w K mg base 43 (He.ga K "_law_chosen") 3 [] (fun xs ys => pickL [.a 0, .a 1, .a 2] xs [] [] ys) G_law_chosen := by
  obtain ⟨fd, F⟩ := Df.d_law_chosen
  have G0 := ok_law_chosen (P := P) (w := w) (base := base) Xf Df F
  exact fz1 F G0 3 [] [.a 0, .a 1, .a 2] (fun _ _ _ _ _ _ us ws h1 h2 => match us, ws, h1, h2 with | [_, _, _], [], _, _ => rfl)
def c_law_chosen_3 : List Vl → List Vl → Mem → Option (R Vl × Mem) := fun xs ys => G_law_chosen ((fun xs ys => pickL [.a 0, .a 1, .a 2] xs [] [] ys) xs ys)
theorem c_law_chosen_3_runs {Y : Cx} (Xf : FX Y.prog Y.K Y.mg) (Df : DX Y.K) (hr : Z.Room 43 Y.A) : Z.Runs Y (He.ga Y.K "_law_chosen") 3 [] c_law_chosen_3 := (z_law_chosen_3 Xf Df).runs hr
/-! ### _law_cell -/
def D_law_cell : DS := (dSeq (dAsg 1 (dCall 2 0 c_law_draw_2 (dCons (dVar 0) (dCons (dC (.int 6)) (fun _ m => some (.ok [], m)))) dNone))
  (dRet (dIf (b2 ltI (dVar 1) (dC (.int 4))) (d2 ixA (dFrz (dLst (dCons (dC (.int 0)) (dCons (dC (.int 1)) (dCons (dC (.int 2)) (dCons (dC (.int 999)) (fun _ m => some (.ok [], m)))))))) (dVar 1)) (dCall 2 0 c_law_draw_2 (dCons (dVar 0) (dCons (dC (.int 1000)) (fun _ m => some (.ok [], m)))) dNone))))
def B_law_cell : FD := bodyD 2 D_law_cell
theorem sc_law_cell : FnScope ["_law_bag", "_law_way"] ["_law_bag"] (defScope s_law_cell) := ⟨rfl, rfl, rfl, by decide +kernel, rfl, by decide +kernel, by decide +kernel⟩
theorem ok_law_cell {P : Program} {w : World} {K : PySem.W.Frag} {mg : Str → Option Value} {base : Heap} (Xf : FX P K mg) (Df : DX K) {fd : FuncData} (F : FunD K "_law_cell" "_law_cell" (defArgs s_law_cell) (defBody s_law_cell) (defScope s_law_cell) (DZ.dvs K z0_law_cell) (DZ.kws K z0_law_cell) (He.ga K "_law_cell") fd) :
    Z.FnOk P w K mg base (L2.CX P w) 2 (He.ga K "_law_cell") fd ["_law_bag"] (spZ K 1 B_law_cell) := by
  have S := sc_law_cell
  exact body_ok F S fun cdv A outer s H E hr => (sss_cons (ss_set (i := 1) S.nd rfl (.inl rfl) (se_call (c_law_draw_2_runs Xf Df (hr.mono (by decide : 1 ≤ 1))) (kp_law_draw Df) Xf.g__law_draw rfl (sa_cons (se_var (i := 0) rfl (.inl rfl)) (sa_cons se_int sa_nil))))
  (sss_one (ss_ret (se_if (st_lt (se_var (i := 1) rfl (.inl rfl)) se_int) (se_ix (se_frz (sl_lst (sa_cons se_int (sa_cons se_int (sa_cons se_int (sa_cons se_int sa_nil)))))) (se_var (i := 1) rfl (.inl rfl))) (se_call (c_law_draw_2_runs Xf Df (hr.mono (by decide : 1 ≤ 1))) (kp_law_draw Df) Xf.g__law_draw rfl (sa_cons (se_var (i := 0) rfl (.inl rfl)) (sa_cons se_int sa_nil)))))))
abbrev G_law_cell : FD := B_law_cell
theorem z_law_cell_1 {P : Program} {w : World} {K : PySem.W.Frag} {mg : Str → Option Value} {base : Heap} (Xf : FX P K mg) (Df : DX K) : Fz P w K mg base 2 (He.ga K "_law_cell") 1 [] (fun xs ys => pickL [.a 0] xs [] [] ys) G_law_cell := by
  obtain ⟨fd, F⟩ := Df.d_law_cell
  have G0 := ok_law_cell (P := P) (w := w) (base := base) Xf Df F
  exact fz1 F G0 1 [] [.a 0] (fun _ _ _ _ _ _ us ws h1 h2 => match us, ws, h1, h2 with | [_], [], _, _ => rfl)
def c_law_cell_1 : List Vl → List Vl → Mem → Option (R Vl × Mem) := fun xs ys => G_law_cell ((fun xs ys => pickL [.a 0] xs [] [] ys) xs ys)
theorem c_law_cell_1_runs {Y : Cx} (Xf : FX Y.prog Y.K Y.mg) (Df : DX Y.K) (hr : Z.Room 2 Y.A) : Z.Runs Y (He.ga Y.K "_law_cell") 1 [] c_law_cell_1 := (z_law_cell_1 Xf Df).runs hr
/-! ### _law_once -/
def D_law_once : DS := (dSeq (dAsg 1 (dNew (dLst (fun _ m => some (.ok [], m)))))
  (dSeq (dFor (iSeqD (dVar 0)) (gVar 2)
  (dIfS (b2 (inA true) (dVar 2) (dVar 1))
  (dDrop (dM "list" (lstM appH) (dVar 1) (dCons (dVar 2) (fun _ m => some (.ok [], m)))))
  dNil))
  (dRet (dVar 1))))
def B_law_once : FD := bodyD 3 D_law_once
theorem sc_law_once : FnScope ["_law_some", "_law_found", "_law_thing"] ["_law_some"] (defScope s_law_once) := ⟨rfl, rfl, rfl, by decide +kernel, rfl, by decide +kernel, by decide +kernel⟩
theorem ok_law_once {P : Program} {w : World} {K : PySem.W.Frag} {mg : Str → Option Value} {base : Heap} (Xf : FX P K mg) (Df : DX K) {fd : FuncData} (F : FunD K "_law_once" "_law_once" (defArgs s_law_once) (defBody s_law_once) (defScope s_law_once) (DZ.dvs K z0_law_once) (DZ.kws K z0_law_once) (He.ga K "_law_once") fd) :
    Z.FnOk P w K mg base (L2.CX P w) 1 (He.ga K "_law_once") fd ["_law_some"] (spZ K 1 B_law_once) := by
  have S := sc_law_once
  exact body_ok F S fun cdv A outer s H E hr => (sss_cons (ss_set (i := 1) S.nd rfl (.inl rfl) (se_new (sl_lst sa_nil)))
  (sss_cons (ss_for (passes_of rfl) rfl (si_seq (se_var (i := 0) rfl (.inl rfl))) (sg_name (i := 2) S.nd rfl (.inl rfl))
  (sss_one (ss_if (st_notin (u65 hr) (se_var (i := 2) rfl (.inl rfl)) (se_var (i := 1) rfl (.inl rfl)))
  (sss_one (ss_expr (se_append (se_var (i := 1) rfl (.inl rfl)) (sa_cons (se_var (i := 2) rfl (.inl rfl)) sa_nil))))
  sss_nil)))
  (sss_one (ss_ret (se_var (i := 1) rfl (.inl rfl))))))
abbrev G_law_once : FD := B_law_once
theorem z_law_once_1 {P : Program} {w : World} {K : PySem.W.Frag} {mg : Str → Option Value} {base : Heap} (Xf : FX P K mg) (Df : DX K) : Fz P w K mg base 1 (He.ga K "_law_once") 1 [] (fun xs ys => pickL [.a 0] xs [] [] ys) G_law_once := by
  obtain ⟨fd, F⟩ := Df.d_law_once
  have G0 := ok_law_once (P := P) (w := w) (base := base) Xf Df F
  exact fz1 F G0 1 [] [.a 0] (fun _ _ _ _ _ _ us ws h1 h2 => match us, ws, h1, h2 with | [_], [], _, _ => rfl)
def c_law_once_1 : List Vl → List Vl → Mem → Option (R Vl × Mem) := fun xs ys => G_law_once ((fun xs ys => pickL [.a 0] xs [] [] ys) xs ys)
theorem c_law_once_1_runs {Y : Cx} (Xf : FX Y.prog Y.K Y.mg) (Df : DX Y.K) (hr : Z.Room 1 Y.A) : Z.Runs Y (He.ga Y.K "_law_once") 1 [] c_law_once_1 := (z_law_once_1 Xf Df).runs hr
def h_law_once_1 : List Vl → List Vl → Mem → Option (R Vl × Mem) := freshG kNone 30 c_law_once_1
theorem h_law_once_1_runs {Y : Cx} (Xf : FX Y.prog Y.K Y.mg) (Df : DX Y.K) (hr : Z.Room 1 Y.A) : Z.Runs Y (He.ga Y.K "_law_once") 1 [] h_law_once_1 := Z.Runs.fresh (c_law_once_1_runs Xf Df hr) kNone 30
/-! ### _law_pairs -/
def D_law_pairs (cs : List Vl → List Vl → Mem → Option (R Vl × Mem)) : DS := (dSeq (dIfS (b2 eqF (d2 ixA (dVar 0) (dC (.int 0))) (dC (.str "is")))
  (dRet (dFrz (dLst (dCons (dTup (dCons (d2 ixA (dVar 0) (dC (.int 1))) (dCons (d2 ixA (dVar 0) (dC (.int 2))) (fun _ m => some (.ok [], m))))) (fun _ m => some (.ok [], m))))))
  dNil)
  (dSeq (dAsg 1 (dFrz (dLst (fun _ m => some (.ok [], m)))))
  (dSeq (dFor (iSeqD (dSl (dVar 0) (dPart (dC (.int 1))) (fun _ m => some (.ok none, m)))) (gVar 2)
  (dAsg 1 (d2 addA (dVar 1) (dCall 1 0 cs (dCons (dVar 2) (fun _ m => some (.ok [], m))) dNone))))
  (dRet (dVar 1)))))
def B_law_pairs : Nat → FD
  | 0 => fun _ _ => none
  | n + 1 => bodyD 3 (D_law_pairs (fun xs ys => B_law_pairs n ((fun xs ys => pickL [.a 0] xs [] [] ys) xs ys)))
theorem sc_law_pairs : FnScope ["_law_form", "_law_found", "_law_part"] ["_law_form"] (defScope s_law_pairs) := ⟨rfl, rfl, rfl, by decide +kernel, rfl, by decide +kernel, by decide +kernel⟩
theorem ok_law_pairs {P : Program} {w : World} {K : PySem.W.Frag} {mg : Str → Option Value} {base : Heap} (Xf : FX P K mg) (Df : DX K) {fd : FuncData} (F : FunD K "_law_pairs" "_law_pairs" (defArgs s_law_pairs) (defBody s_law_pairs) (defScope s_law_pairs) (DZ.dvs K z0_law_pairs) (DZ.kws K z0_law_pairs) (He.ga K "_law_pairs") fd) :
    ∀ n : Nat, Z.FnOk P w K mg base (L2.CX P w) (0 + n) (He.ga K "_law_pairs") fd ["_law_form"] (spZ K 1 (B_law_pairs n))
  | 0 => fnOk_none
  | n + 1 => by
    have S := sc_law_pairs
    have zr := fz1 F (ok_law_pairs (P := P) (w := w) (base := base) Xf Df F n) 1 [] [.a 0] (fun _ _ _ _ _ _ us ws h1 h2 => match us, ws, h1, h2 with | [_], [], _, _ => rfl)
    exact body_ok F S fun cdv A outer s H E hr => (sss_cons (ss_if (st_eq (u64 hr) (se_ix (se_var (i := 0) rfl (.inl rfl)) se_int) se_str)
  (sss_one (ss_ret (se_frz (sl_lst (sa_cons (se_tup (sa_cons (se_ix (se_var (i := 0) rfl (.inl rfl)) se_int) (sa_cons (se_ix (se_var (i := 0) rfl (.inl rfl)) se_int) sa_nil))) sa_nil)))))
  sss_nil)
  (sss_cons (ss_set (i := 1) S.nd rfl (.inl rfl) (se_frz (sl_lst sa_nil)))
  (sss_cons (ss_for (passes_of rfl) rfl (si_seq (se_slice (se_var (i := 0) rfl (.inl rfl)) (so_some se_int) so_none)) (sg_name (i := 2) S.nd rfl (.inl rfl))
  (sss_one (ss_set (i := 1) S.nd rfl (.inl rfl) (se_add (se_var (i := 1) rfl (.inl rfl)) (se_call (zr.runs hr) (kp_law_pairs Df) Xf.g__law_pairs rfl (sa_cons (se_var (i := 2) rfl (.inl rfl)) sa_nil))))))
  (sss_one (ss_ret (se_var (i := 1) rfl (.inl rfl)))))))
abbrev G_law_pairs : FD := B_law_pairs 40
theorem z_law_pairs_1 {P : Program} {w : World} {K : PySem.W.Frag} {mg : Str → Option Value} {base : Heap} (Xf : FX P K mg) (Df : DX K) : Fz P w K mg base 40 (He.ga K "_law_pairs") 1 [] (fun xs ys => pickL [.a 0] xs [] [] ys) G_law_pairs := by
  obtain ⟨fd, F⟩ := Df.d_law_pairs
  have G0 := ok_law_pairs (P := P) (w := w) (base := base) Xf Df F 40
  exact fz1 F G0 1 [] [.a 0] (fun _ _ _ _ _ _ us ws h1 h2 => match us, ws, h1, h2 with | [_], [], _, _ => rfl)
def c_law_pairs_1 : List Vl → List Vl → Mem → Option (R Vl × Mem) := fun xs ys => G_law_pairs ((fun xs ys => pickL [.a 0] xs [] [] ys) xs ys)
theorem c_law_pairs_1_runs {Y : Cx} (Xf : FX Y.prog Y.K Y.mg) (Df : DX Y.K) (hr : Z.Room 40 Y.A) : Z.Runs Y (He.ga Y.K "_law_pairs") 1 [] c_law_pairs_1 := (z_law_pairs_1 Xf Df).runs hr
/-! ### _law_turned -/
def D_law_turned : DS := (dSeq (dPar 2 3 (dCons (dNew (dListOf (dCons (dVar 1) (fun _ m => some (.ok [], m))))) (dCons (dNew (dLst (fun _ m => some (.ok [], m)))) (fun _ m => some (.ok [], m)))))
  (dSeq (dWhile 100 (b2 neF (dVar 2) (dFrz (dLst (fun _ m => some (.ok [], m)))))
  (dDrop (dM "list" (lstM appH) (dVar 3) (dCons (dM "list" (lstM popH) (dVar 2) (dCons (dCall 2 0 c_law_draw_2 (dCons (dVar 0) (dCons (dB lenF (dCons (dVar 2) (fun _ m => some (.ok [], m)))) (fun _ m => some (.ok [], m)))) dNone) (fun _ m => some (.ok [], m)))) (fun _ m => some (.ok [], m))))))
  (dRet (dVar 3))))
def B_law_turned : FD := bodyD 4 D_law_turned
theorem sc_law_turned : FnScope ["_law_bag", "_law_some", "_law_left", "_law_found"] ["_law_bag", "_law_some"] (defScope s_law_turned) := ⟨rfl, rfl, rfl, by decide +kernel, rfl, by decide +kernel, by decide +kernel⟩
theorem ok_law_turned {P : Program} {w : World} {K : PySem.W.Frag} {mg : Str → Option Value} {base : Heap} (Xf : FX P K mg) (Df : DX K) {fd : FuncData} (F : FunD K "_law_turned" "_law_turned" (defArgs s_law_turned) (defBody s_law_turned) (defScope s_law_turned) (DZ.dvs K z0_law_turned) (DZ.kws K z0_law_turned) (He.ga K "_law_turned") fd) :
    Z.FnOk P w K mg base (L2.CX P w) 2 (He.ga K "_law_turned") fd ["_law_bag", "_law_some"] (spZ K 2 B_law_turned) := by
  have S := sc_law_turned
  exact body_ok F S fun cdv A outer s H E hr => (sss_cons (ss_par (i := 2) (j := 3) rfl S.nd rfl rfl (by decide) rfl rfl (sa_cons (se_new (sl_list rfl Xf.f_list (sa_cons (se_var (i := 1) rfl (.inl rfl)) sa_nil))) (sa_cons (se_new (sl_lst sa_nil)) sa_nil)) (by rfl))
  (sss_cons (ss_while (n := 100) (passes_of rfl) (st_ne (u64 hr) (se_var (i := 2) rfl (.inl rfl)) (se_frz (sl_lst sa_nil)))
  (sss_one (ss_expr (se_append (se_var (i := 3) rfl (.inl rfl)) (sa_cons (se_popAt (se_var (i := 2) rfl (.inl rfl)) (sa_cons (se_call (c_law_draw_2_runs Xf Df (hr.mono (by decide : 1 ≤ 1))) (kp_law_draw Df) Xf.g__law_draw rfl (sa_cons (se_var (i := 0) rfl (.inl rfl)) (sa_cons (se_len rfl Xf.f_len (sa_cons (se_var (i := 2) rfl (.inl rfl)) sa_nil)) sa_nil))) sa_nil)) sa_nil)))))
  (sss_one (ss_ret (se_var (i := 3) rfl (.inl rfl))))))
abbrev G_law_turned : FD := B_law_turned
theorem z_law_turned_2 {P : Program} {w : World} {K : PySem.W.Frag} {mg : Str → Option Value} {base : Heap} (Xf : FX P K mg) (Df : DX K) : Fz P w K mg base 2 (He.ga K "_law_turned") 2 [] (fun xs ys => pickL [.a 0, .a 1] xs [] [] ys) G_law_turned := by
  obtain ⟨fd, F⟩ := Df.d_law_turned
  have G0 := ok_law_turned (P := P) (w := w) (base := base) Xf Df F
  exact fz1 F G0 2 [] [.a 0, .a 1] (fun _ _ _ _ _ _ us ws h1 h2 => match us, ws, h1, h2 with | [_, _], [], _, _ => rfl)
def c_law_turned_2 : List Vl → List Vl → Mem → Option (R Vl × Mem) := fun xs ys => G_law_turned ((fun xs ys => pickL [.a 0, .a 1] xs [] [] ys) xs ys)
theorem c_law_turned_2_runs {Y : Cx} (Xf : FX Y.prog Y.K Y.mg) (Df : DX Y.K) (hr : Z.Room 2 Y.A) : Z.Runs Y (He.ga Y.K "_law_turned") 2 [] c_law_turned_2 := (z_law_turned_2 Xf Df).runs hr
/-! ### compared_in -/
def D_compared_in (cs : List Vl → List Vl → Mem → Option (R Vl × Mem)) : DS := (dSeq (dIfS (b2 eqF (d2 ixA (dVar 0) (dC (.int 0))) (dC (.str "is")))
  (dRet (dFrz (dLst (dCons (dTup (dCons (d2 ixA (dVar 0) (dC (.int 1))) (dCons (d2 ixA (dVar 0) (dC (.int 2))) (fun _ m => some (.ok [], m))))) (fun _ m => some (.ok [], m))))))
  dNil)
  (dSeq (dAsg 1 (dNew (dLst (fun _ m => some (.ok [], m)))))
  (dSeq (dFor (iSeqD (dSl (dVar 0) (dPart (dC (.int 1))) (fun _ m => some (.ok none, m)))) (gVar 2)
  (dDrop (dM "list" extM (dVar 1) (dCons (dCall 1 0 (freshG kNone 30 cs) (dCons (dVar 2) (fun _ m => some (.ok [], m))) dNone) (fun _ m => some (.ok [], m))))))
  (dRet (dVar 1)))))
def B_compared_in : Nat → FD
  | 0 => fun _ _ => none
  | n + 1 => bodyD 3 (D_compared_in (fun xs ys => B_compared_in n ((fun xs ys => pickL [.a 0] xs [] [] ys) xs ys)))
theorem sc_compared_in : FnScope ["form", "found", "part"] ["form"] (defScope s_compared_in) := ⟨rfl, rfl, rfl, by decide +kernel, rfl, by decide +kernel, by decide +kernel⟩
theorem ok_compared_in {P : Program} {w : World} {K : PySem.W.Frag} {mg : Str → Option Value} {base : Heap} (Xf : FX P K mg) (Df : DX K) {fd : FuncData} (F : FunD K "compared_in" "compared_in" (defArgs s_compared_in) (defBody s_compared_in) (defScope s_compared_in) (DZ.dvs K z0_compared_in) (DZ.kws K z0_compared_in) (He.ga K "compared_in") fd) :
    ∀ n : Nat, Z.FnOk P w K mg base (L2.CX P w) (0 + n) (He.ga K "compared_in") fd ["form"] (spZ K 1 (B_compared_in n))
  | 0 => fnOk_none
  | n + 1 => by
    have S := sc_compared_in
    have zr := fz1 F (ok_compared_in (P := P) (w := w) (base := base) Xf Df F n) 1 [] [.a 0] (fun _ _ _ _ _ _ us ws h1 h2 => match us, ws, h1, h2 with | [_], [], _, _ => rfl)
    exact body_ok F S fun cdv A outer s H E hr => (sss_cons (ss_if (st_eq (u64 hr) (se_ix (se_var (i := 0) rfl (.inl rfl)) se_int) se_str)
  (sss_one (ss_ret (se_frz (sl_lst (sa_cons (se_tup (sa_cons (se_ix (se_var (i := 0) rfl (.inl rfl)) se_int) (sa_cons (se_ix (se_var (i := 0) rfl (.inl rfl)) se_int) sa_nil))) sa_nil)))))
  sss_nil)
  (sss_cons (ss_set (i := 1) S.nd rfl (.inl rfl) (se_new (sl_lst sa_nil)))
  (sss_cons (ss_for (passes_of rfl) rfl (si_seq (se_slice (se_var (i := 0) rfl (.inl rfl)) (so_some se_int) so_none)) (sg_name (i := 2) S.nd rfl (.inl rfl))
  (sss_one (ss_expr (se_extend (se_var (i := 1) rfl (.inl rfl)) (sa_cons (se_call (Z.Runs.fresh (zr.runs hr) kNone 30) (kp_compared_in Df) Xf.g_compared_in rfl (sa_cons (se_var (i := 2) rfl (.inl rfl)) sa_nil)) sa_nil)))))
  (sss_one (ss_ret (se_var (i := 1) rfl (.inl rfl)))))))
abbrev G_compared_in : FD := B_compared_in 40
theorem z_compared_in_1 {P : Program} {w : World} {K : PySem.W.Frag} {mg : Str → Option Value} {base : Heap} (Xf : FX P K mg) (Df : DX K) : Fz P w K mg base 40 (He.ga K "compared_in") 1 [] (fun xs ys => pickL [.a 0] xs [] [] ys) G_compared_in := by
  obtain ⟨fd, F⟩ := Df.d_compared_in
  have G0 := ok_compared_in (P := P) (w := w) (base := base) Xf Df F 40
  exact fz1 F G0 1 [] [.a 0] (fun _ _ _ _ _ _ us ws h1 h2 => match us, ws, h1, h2 with | [_], [], _, _ => rfl)
def c_compared_in_1 : List Vl → List Vl → Mem → Option (R Vl × Mem) := fun xs ys => G_compared_in ((fun xs ys => pickL [.a 0] xs [] [] ys) xs ys)
theorem c_compared_in_1_runs {Y : Cx} (Xf : FX Y.prog Y.K Y.mg) (Df : DX Y.K) (hr : Z.Room 40 Y.A) : Z.Runs Y (He.ga Y.K "compared_in") 1 [] c_compared_in_1 := (z_compared_in_1 Xf Df).runs hr
def h_compared_in_1 : List Vl → List Vl → Mem → Option (R Vl × Mem) := freshG kNone 30 c_compared_in_1
theorem h_compared_in_1_runs {Y : Cx} (Xf : FX Y.prog Y.K Y.mg) (Df : DX Y.K) (hr : Z.Room 40 Y.A) : Z.Runs Y (He.ga Y.K "compared_in") 1 [] h_compared_in_1 := Z.Runs.fresh (c_compared_in_1_runs Xf Df hr) kNone 30
/-! ### Filter.bare_pairs -/
def D_Filter_bare_pairs : DS := (dSeq (dPar 1 2 (dCons (dNew (dLst (fun _ m => some (.ok [], m)))) (dCons (dNew (dLst (fun _ m => some (.ok [], m)))) (fun _ m => some (.ok [], m)))))
  (dSeq (dFor (iSeqD (dCall 1 0 h_compared_in_1 (dCons (dFld ["Filter"] "form" (dVar 0)) (fun _ m => some (.ok [], m))) dNone)) (gVar 3)
  (dIfS (b2 (inA true) (d2 ixA (dVar 3) (dC (.int 1))) (dVar 2))
  (dSeq (dDrop (dM "list" (lstM appH) (dVar 2) (dCons (d2 ixA (dVar 3) (dC (.int 1))) (fun _ m => some (.ok [], m)))))
  (dDrop (dM "list" (lstM appH) (dVar 1) (dCons (dVar 3) (fun _ m => some (.ok [], m))))))
  dNil))
  (dRet (dVar 1))))
def B_Filter_bare_pairs : FD := bodyD 4 D_Filter_bare_pairs
theorem sc_Filter_bare_pairs : FnScope ["self", "found", "met", "pair"] ["self"] (defScope s_Filter_bare_pairs) := ⟨rfl, rfl, rfl, by decide +kernel, rfl, by decide +kernel, by decide +kernel⟩
theorem ok_Filter_bare_pairs {P : Program} {w : World} {K : PySem.W.Frag} {mg : Str → Option Value} {base : Heap} (Xf : FX P K mg) (Df : DX K) {fd : FuncData} (F : FunD K "bare_pairs" "Filter.bare_pairs" (defArgs s_Filter_bare_pairs) (defBody s_Filter_bare_pairs) (defScope s_Filter_bare_pairs) (DZ.dvs K z0_Filter_bare_pairs) (DZ.kws K z0_Filter_bare_pairs) (He.ma K (He.ga K "Filter") "bare_pairs") fd) :
    Z.FnOk P w K mg base (L2.CX P w) 41 (He.ma K (He.ga K "Filter") "bare_pairs") fd ["self"] (spZ K 1 B_Filter_bare_pairs) := by
  have S := sc_Filter_bare_pairs
  exact body_ok F S fun cdv A outer s H E hr => (sss_cons (ss_par (i := 1) (j := 2) rfl S.nd rfl rfl (by decide) rfl rfl (sa_cons (se_new (sl_lst sa_nil)) (sa_cons (se_new (sl_lst sa_nil)) sa_nil)) (by rfl))
  (sss_cons (ss_for (passes_of rfl) rfl (si_seq (se_call (h_compared_in_1_runs Xf Df (hr.mono (by decide : 40 ≤ 40))) (kp_compared_in Df) Xf.g_compared_in rfl (sa_cons (se_fld (se_var (i := 0) rfl (.inl rfl)) Xf.a_form_Filter) sa_nil))) (sg_name (i := 3) S.nd rfl (.inl rfl))
  (sss_one (ss_if (st_notin (u65 hr) (se_ix (se_var (i := 3) rfl (.inl rfl)) se_int) (se_var (i := 2) rfl (.inl rfl)))
  (sss_cons (ss_expr (se_append (se_var (i := 2) rfl (.inl rfl)) (sa_cons (se_ix (se_var (i := 3) rfl (.inl rfl)) se_int) sa_nil)))
  (sss_one (ss_expr (se_append (se_var (i := 1) rfl (.inl rfl)) (sa_cons (se_var (i := 3) rfl (.inl rfl)) sa_nil)))))
  sss_nil)))
  (sss_one (ss_ret (se_var (i := 1) rfl (.inl rfl))))))
abbrev G_Filter_bare_pairs : FD := B_Filter_bare_pairs
theorem z_Filter_bare_pairs_1 {P : Program} {w : World} {K : PySem.W.Frag} {mg : Str → Option Value} {base : Heap} (Xf : FX P K mg) (Df : DX K) : Fz P w K mg base 41 (He.ma K (He.ga K "Filter") "bare_pairs") 1 [] (fun xs ys => pickL [.a 0] xs [] [] ys) G_Filter_bare_pairs := by
  obtain ⟨fd, F⟩ := Df.d_Filter_bare_pairs
  have G0 := ok_Filter_bare_pairs (P := P) (w := w) (base := base) Xf Df F
  exact fz1 F G0 1 [] [.a 0] (fun _ _ _ _ _ _ us ws h1 h2 => match us, ws, h1, h2 with | [_], [], _, _ => rfl)
/-! ### Filter.parameters -/
def D_Filter_parameters : DS := (dRet (dFrz (dLcW (wLst (dMeth "Filter" "bare_pairs" 0 0 (fun xs ys => pickL [.a 0] xs [] [] ys) G_Filter_bare_pairs (dVar 0) dNone dNone)) (gcTup (gcsCons (gcVar 1) (gcsCons (gcVar 2) gcsNil))) (tTr (dB (isiF csZ (kitT kitL)) (dCons (dVar 2) (dCons (dC (.ty "str")) (fun _ m => some (.ok [], m)))))) (dVar 2) ([("column", 1), ("part", 2)].map (·.2)))))
def B_Filter_parameters : FD := bodyD 3 D_Filter_parameters
theorem sc_Filter_parameters : FnScope ["self", "column", "part"] ["self"] (defScope s_Filter_parameters) := ⟨rfl, rfl, rfl, by decide +kernel, rfl, by decide +kernel, by decide +kernel⟩
theorem ok_Filter_parameters {P : Program} {w : World} {K : PySem.W.Frag} {mg : Str → Option Value} {base : Heap} (Xf : FX P K mg) (Df : DX K) {fd : FuncData} (F : FunD K "parameters" "Filter.parameters" (defArgs s_Filter_parameters) (defBody s_Filter_parameters) (defScope s_Filter_parameters) (DZ.dvs K z0_Filter_parameters) (DZ.kws K z0_Filter_parameters) (He.ma K (He.ga K "Filter") "parameters") fd) :
    Z.FnOk P w K mg base (L2.CX P w) 42 (He.ma K (He.ga K "Filter") "parameters") fd ["self"] (spZ K 1 B_Filter_parameters) := by
  have S := sc_Filter_parameters
  exact body_ok F S fun cdv A outer s H E hr => (sss_one (ss_ret (se_frz (sl_lcW rfl S.nd (siw_list (se_meth0 (se_var (i := 0) rfl (.inl rfl)) Xf.c_Filter Xf.m_Filter_bare_pairs (z_Filter_bare_pairs_1 Xf Df) (hr.mono (by decide : 41 ≤ 41)))) (own := [("column", 1), ("part", 2)]) (blkOk_by rfl) (fun _ _ _ _ _ => (sgc_tup rfl (sgcs_cons (sgc_name (i := 1) S.nd rfl (.inl rfl)) (sgcs_cons (sgc_name (i := 2) S.nd rfl (.inl rfl)) sgcs_nil)) (gcl_cons (gcl_cons gcl_nil)))) (fun _ _ _ _ _ => (sts_one (st_tru (se_isi Xf.ins Xf.kit rfl Xf.f_isinstance (sa_cons (se_var (i := 2) rfl (.inl rfl)) (sa_cons (se_ty rfl Xf.f_str (by decide +kernel)) sa_nil)))))) (fun _ _ _ _ _ => (se_var (i := 2) rfl (.inl rfl)))))))
abbrev G_Filter_parameters : FD := B_Filter_parameters
theorem z_Filter_parameters_1 {P : Program} {w : World} {K : PySem.W.Frag} {mg : Str → Option Value} {base : Heap} (Xf : FX P K mg) (Df : DX K) : Fz P w K mg base 42 (He.ma K (He.ga K "Filter") "parameters") 1 [] (fun xs ys => pickL [.a 0] xs [] [] ys) G_Filter_parameters := by
  obtain ⟨fd, F⟩ := Df.d_Filter_parameters
  have G0 := ok_Filter_parameters (P := P) (w := w) (base := base) Xf Df F
  exact fz1 F G0 1 [] [.a 0] (fun _ _ _ _ _ _ us ws h1 h2 => match us, ws, h1, h2 with | [_], [], _, _ => rfl)
/-! ### replaced_in -/
def D_replaced_in (cs : List Vl → List Vl → Mem → Option (R Vl × Mem)) : DS := (dSeq (dIfS (b2 eqF (d2 ixA (dVar 0) (dC (.int 0))) (dC (.str "is")))
  (dRet (dTup (dCons (dC (.str "is")) (dCons (d2 ixA (dVar 0) (dC (.int 1))) (dCons (dIf (tTr (dB (isiF csZ (kitT kitL)) (dCons (d2 ixA (dVar 0) (dC (.int 2))) (dCons (dC (.ty "str")) (fun _ m => some (.ok [], m)))))) (d2 ixK (dVar 1) (d2 ixA (dVar 0) (dC (.int 2)))) (d2 ixA (dVar 0) (dC (.int 2)))) (fun _ m => some (.ok [], m)))))))
  dNil)
  (dRet (dTup (dCons (d2 ixA (dVar 0) (dC (.int 0))) (dStar (dFrz (dLc (iSeqD (dSl (dVar 0) (dPart (dC (.int 1))) (fun _ m => some (.ok none, m)))) (gcVar 2) dYes (dCall 2 0 cs (dCons (dVar 2) (dCons (dVar 1) (fun _ m => some (.ok [], m)))) dNone) ([("part", 2)].map (·.2)))) (fun _ m => some (.ok [], m)))))))
def B_replaced_in : Nat → FD
  | 0 => fun _ _ => none
  | n + 1 => bodyD 3 (D_replaced_in (fun xs ys => B_replaced_in n ((fun xs ys => pickL [.a 0, .a 1] xs [] [] ys) xs ys)))
theorem sc_replaced_in : FnScope ["form", "values", "part"] ["form", "values"] (defScope s_replaced_in) := ⟨rfl, rfl, rfl, by decide +kernel, rfl, by decide +kernel, by decide +kernel⟩
theorem ok_replaced_in {P : Program} {w : World} {K : PySem.W.Frag} {mg : Str → Option Value} {base : Heap} (Xf : FX P K mg) (Df : DX K) {fd : FuncData} (F : FunD K "replaced_in" "replaced_in" (defArgs s_replaced_in) (defBody s_replaced_in) (defScope s_replaced_in) (DZ.dvs K z0_replaced_in) (DZ.kws K z0_replaced_in) (He.ga K "replaced_in") fd) :
    ∀ n : Nat, Z.FnOk P w K mg base (L2.CX P w) (0 + n) (He.ga K "replaced_in") fd ["form", "values"] (spZ K 2 (B_replaced_in n))
  | 0 => fnOk_none
  | n + 1 => by
    have S := sc_replaced_in
    have zr := fz1 F (ok_replaced_in (P := P) (w := w) (base := base) Xf Df F n) 2 [] [.a 0, .a 1] (fun _ _ _ _ _ _ us ws h1 h2 => match us, ws, h1, h2 with | [_, _], [], _, _ => rfl)
    exact body_ok F S fun cdv A outer s H E hr => (sss_cons (ss_if (st_eq (u64 hr) (se_ix (se_var (i := 0) rfl (.inl rfl)) se_int) se_str)
  (sss_one (ss_ret (se_tup (sa_cons se_str (sa_cons (se_ix (se_var (i := 0) rfl (.inl rfl)) se_int) (sa_cons (se_if (st_tru (se_isi Xf.ins Xf.kit rfl Xf.f_isinstance (sa_cons (se_ix (se_var (i := 0) rfl (.inl rfl)) se_int) (sa_cons (se_ty rfl Xf.f_str (by decide +kernel)) sa_nil)))) (se_dget (u1 hr) (se_var (i := 1) rfl (.inr (.inl rfl))) (se_ix (se_var (i := 0) rfl (.inl rfl)) se_int) (fun _ _ => rfl)) (se_ix (se_var (i := 0) rfl (.inl rfl)) se_int)) sa_nil))))))
  sss_nil)
  (sss_one (ss_ret (se_tup (sa_cons (se_ix (se_var (i := 0) rfl (.inl rfl)) se_int) (sa_star (se_frz (sl_lc rfl S.nd (si_seq (se_slice (se_var (i := 0) rfl (.inl rfl)) (so_some se_int) so_none)) (own := [("part", 2)]) (blkOk_by rfl) (fun _ _ _ _ _ => (sgc_name (i := 2) S.nd rfl (.inl rfl))) (fun _ _ _ _ _ => sts_nil) (fun _ _ _ _ _ => (se_call (zr.runs hr) (kp_replaced_in Df) Xf.g_replaced_in rfl (sa_cons (se_var (i := 2) rfl (.inl rfl)) (sa_cons (se_var (i := 1) rfl (.inr (.inl rfl))) sa_nil)))))) sa_nil))))))
abbrev G_replaced_in : FD := B_replaced_in 40
theorem z_replaced_in_2 {P : Program} {w : World} {K : PySem.W.Frag} {mg : Str → Option Value} {base : Heap} (Xf : FX P K mg) (Df : DX K) : Fz P w K mg base 40 (He.ga K "replaced_in") 2 [] (fun xs ys => pickL [.a 0, .a 1] xs [] [] ys) G_replaced_in := by
  obtain ⟨fd, F⟩ := Df.d_replaced_in
  have G0 := ok_replaced_in (P := P) (w := w) (base := base) Xf Df F 40
  exact fz1 F G0 2 [] [.a 0, .a 1] (fun _ _ _ _ _ _ us ws h1 h2 => match us, ws, h1, h2 with | [_, _], [], _, _ => rfl)
def c_replaced_in_2 : List Vl → List Vl → Mem → Option (R Vl × Mem) := fun xs ys => G_replaced_in ((fun xs ys => pickL [.a 0, .a 1] xs [] [] ys) xs ys)
theorem c_replaced_in_2_runs {Y : Cx} (Xf : FX Y.prog Y.K Y.mg) (Df : DX Y.K) (hr : Z.Room 40 Y.A) : Z.Runs Y (He.ga Y.K "replaced_in") 2 [] c_replaced_in_2 := (z_replaced_in_2 Xf Df).runs hr
/-! ### Filter.bound -/
def D_Filter_bound : DS := (dSeq (dFor (iSeqD (dMeth "Filter" "parameters" 0 0 (fun xs ys => pickL [.a 0] xs [] [] ys) G_Filter_parameters (dVar 0) dNone dNone)) (gVar 2)
  (dIfS (tB' (d2 (inK true) (dVar 2) (dVar 1)))
  (dRaise (dMk "Unbound" "name" (dCons (dVar 2) (fun _ m => some (.ok [], m)))))
  dNil))
  (dRet (dCall 1 0 n_Filter_init_2 (dCons (dCall 2 0 c_replaced_in_2 (dCons (dFld ["Filter"] "form" (dVar 0)) (dCons (dVar 1) (fun _ m => some (.ok [], m)))) dNone) (fun _ m => some (.ok [], m))) dNone)))
def B_Filter_bound : FD := bodyD 3 D_Filter_bound
theorem sc_Filter_bound : FnScope ["self", "values", "name"] ["self", "values"] (defScope s_Filter_bound) := ⟨rfl, rfl, rfl, by decide +kernel, rfl, by decide +kernel, by decide +kernel⟩
theorem ok_Filter_bound {P : Program} {w : World} {K : PySem.W.Frag} {mg : Str → Option Value} {base : Heap} (Xf : FX P K mg) (Df : DX K) {fd : FuncData} (F : FunD K "bound" "Filter.bound" (defArgs s_Filter_bound) (defBody s_Filter_bound) (defScope s_Filter_bound) (DZ.dvs K z0_Filter_bound) (DZ.kws K z0_Filter_bound) (He.ma K (He.ga K "Filter") "bound") fd) :
    Z.FnOk P w K mg base (L2.CX P w) 43 (He.ma K (He.ga K "Filter") "bound") fd ["self", "values"] (spZ K 2 B_Filter_bound) := by
  have S := sc_Filter_bound
  exact body_ok F S fun cdv A outer s H E hr => (sss_cons (ss_for (passes_of rfl) rfl (si_seq (se_meth0 (se_var (i := 0) rfl (.inl rfl)) Xf.c_Filter Xf.m_Filter_parameters (z_Filter_parameters_1 Xf Df) (hr.mono (by decide : 42 ≤ 42)))) (sg_name (i := 2) S.nd rfl (.inl rfl))
  (sss_one (ss_if (st_cmpE (se_dnotin (u1 hr) (se_var (i := 2) rfl (.inl rfl)) (se_var (i := 1) rfl (.inl rfl))))
  (sss_one (ss_raise rfl (sm_errN Xf.e_Unbound Xf.f_super (hr.mono (by decide : 1 ≤ 42)) Xf.g_Unbound rfl (sa_cons (se_var (i := 2) rfl (.inl rfl)) sa_nil))))
  sss_nil)))
  (sss_one (ss_ret (se_call (n_Filter_init_2_runs Xf Df (hr.mono (by decide : 2 ≤ 42))) (Xf.n_Filter).kp Xf.g_Filter rfl (sa_cons (se_call (c_replaced_in_2_runs Xf Df (hr.mono (by decide : 40 ≤ 42))) (kp_replaced_in Df) Xf.g_replaced_in rfl (sa_cons (se_fld (se_var (i := 0) rfl (.inl rfl)) Xf.a_form_Filter) (sa_cons (se_var (i := 1) rfl (.inl rfl)) sa_nil))) sa_nil)))))
abbrev G_Filter_bound : FD := B_Filter_bound
theorem z_Filter_bound_2 {P : Program} {w : World} {K : PySem.W.Frag} {mg : Str → Option Value} {base : Heap} (Xf : FX P K mg) (Df : DX K) : Fz P w K mg base 43 (He.ma K (He.ga K "Filter") "bound") 2 [] (fun xs ys => pickL [.a 0, .a 1] xs [] [] ys) G_Filter_bound := by
  obtain ⟨fd, F⟩ := Df.d_Filter_bound
  have G0 := ok_Filter_bound (P := P) (w := w) (base := base) Xf Df F
  exact fz1 F G0 2 [] [.a 0, .a 1] (fun _ _ _ _ _ _ us ws h1 h2 => match us, ws, h1, h2 with | [_, _], [], _, _ => rfl)
theorem z_Filter_bound_1_values {P : Program} {w : World} {K : PySem.W.Frag} {mg : Str → Option Value} {base : Heap} (Xf : FX P K mg) (Df : DX K) : Fz P w K mg base 43 (He.ma K (He.ga K "Filter") "bound") 1 ["values"] (fun xs ys => pickL [.a 0, .k 0] xs [] [] ys) G_Filter_bound := by
  obtain ⟨fd, F⟩ := Df.d_Filter_bound
  have G0 := ok_Filter_bound (P := P) (w := w) (base := base) Xf Df F
  exact fz1 F G0 1 ["values"] [.a 0, .k 0] (fun _ _ _ _ _ _ us ws h1 h2 => match us, ws, h1, h2 with | [_], [_], _, _ => rfl)
/-! ### _law_bound -/
def D_law_bound : DS := (dSeq (dTry (exTb exL) (dAsg 3 (dMeth "Filter" "bound" 1 0 (fun xs ys => pickL [.a 0, .a 1] xs [] [] ys) G_Filter_bound (dVar 0) (dCons (dVar 1) (fun _ m => some (.ok [], m))) dNone)) [("Unbound", some 2, (dRet (dTup (dCons (dC .non) (dCons (dXf esZ "name" (dVar 2)) (fun _ m => some (.ok [], m)))))))])
  (dRet (dTup (dCons (dVar 3) (dCons (dC .non) (fun _ m => some (.ok [], m)))))))
def B_law_bound : FD := bodyD 4 D_law_bound
theorem sc_law_bound : FnScope ["_law_chosen_here", "_law_values", "e", "_law_found"] ["_law_chosen_here", "_law_values"] (defScope s_law_bound) := ⟨rfl, rfl, rfl, by decide +kernel, rfl, by decide +kernel, by decide +kernel⟩
theorem ok_law_bound {P : Program} {w : World} {K : PySem.W.Frag} {mg : Str → Option Value} {base : Heap} (Xf : FX P K mg) (Df : DX K) {fd : FuncData} (F : FunD K "_law_bound" "_law_bound" (defArgs s_law_bound) (defBody s_law_bound) (defScope s_law_bound) (DZ.dvs K z0_law_bound) (DZ.kws K z0_law_bound) (He.ga K "_law_bound") fd) :
    Z.FnOk P w K mg base (L2.CX P w) 44 (He.ga K "_law_bound") fd ["_law_chosen_here", "_law_values"] (spZ K 2 B_law_bound) := by
  have S := sc_law_bound
  exact body_ok F S fun cdv A outer s H E hr => (sss_cons (ss_try rfl rfl rfl S.nd Xf.exm (fun pn xe hpo => (sss_one (ss_set (i := 3) S.nd rfl (.inl rfl) (se_meth (se_var (i := 0) rfl (.inl rfl)) Xf.c_Filter Xf.m_Filter_bound (z_Filter_bound_2 Xf Df) (hr.mono (by decide : 43 ≤ 43)) (sa_cons (se_var (i := 1) rfl (.inl rfl)) sa_nil)))))
  (.as_ ⟨rfl, by decide, .inl Xf.g_Unbound⟩ (i := 2) rfl rfl (fun _ _ => (sss_one (ss_ret (se_tup (sa_cons se_non (sa_cons (se_xf (se_var (i := 2) rfl (.inl rfl)) Xf.errk Xf.xf_name) sa_nil)))))) .nil))
  (sss_one (ss_ret (se_tup (sa_cons (se_var (i := 3) rfl (.inl rfl)) (sa_cons se_non sa_nil))))))
abbrev G_law_bound : FD := B_law_bound
theorem z_law_bound_2 {P : Program} {w : World} {K : PySem.W.Frag} {mg : Str → Option Value} {base : Heap} (Xf : FX P K mg) (Df : DX K) : Fz P w K mg base 44 (He.ga K "_law_bound") 2 [] (fun xs ys => pickL [.a 0, .a 1] xs [] [] ys) G_law_bound := by
  obtain ⟨fd, F⟩ := Df.d_law_bound
  have G0 := ok_law_bound (P := P) (w := w) (base := base) Xf Df F
  exact fz1 F G0 2 [] [.a 0, .a 1] (fun _ _ _ _ _ _ us ws h1 h2 => match us, ws, h1, h2 with | [_, _], [], _, _ => rfl)
def c_law_bound_2 : List Vl → List Vl → Mem → Option (R Vl × Mem) := fun xs ys => G_law_bound ((fun xs ys => pickL [.a 0, .a 1] xs [] [] ys) xs ys)
theorem c_law_bound_2_runs {Y : Cx} (Xf : FX Y.prog Y.K Y.mg) (Df : DX Y.K) (hr : Z.Room 44 Y.A) : Z.Runs Y (He.ga Y.K "_law_bound") 2 [] c_law_bound_2 := (z_law_bound_2 Xf Df).runs hr
/-! ### _law_put_in -/
def D_law_put_in (cs : List Vl → List Vl → Mem → Option (R Vl × Mem)) : DS := (dSeq (dIfS (b2 eqF (d2 ixA (dVar 0) (dC (.int 0))) (dC (.str "is")))
  (dRet (dTup (dCons (dC (.str "is")) (dCons (d2 ixA (dVar 0) (dC (.int 1))) (dCons (dIf (tTr (dB (isiF csZ (kitT kitL)) (dCons (d2 ixA (dVar 0) (dC (.int 2))) (dCons (dC (.ty "str")) (fun _ m => some (.ok [], m)))))) (d2 ixK (dVar 1) (d2 ixA (dVar 0) (dC (.int 2)))) (d2 ixA (dVar 0) (dC (.int 2)))) (fun _ m => some (.ok [], m)))))))
  dNil)
  (dRet (dB tupleF (dCons (d2 addA (dFrz (dLst (dCons (d2 ixA (dVar 0) (dC (.int 0))) (fun _ m => some (.ok [], m))))) (dFrz (dLc (iSeqD (dSl (dVar 0) (dPart (dC (.int 1))) (fun _ m => some (.ok none, m)))) (gcVar 2) dYes (dCall 2 0 cs (dCons (dVar 2) (dCons (dVar 1) (fun _ m => some (.ok [], m)))) dNone) ([("_law_part", 2)].map (·.2))))) (fun _ m => some (.ok [], m))))))
def B_law_put_in : Nat → FD
  | 0 => fun _ _ => none
  | n + 1 => bodyD 3 (D_law_put_in (fun xs ys => B_law_put_in n ((fun xs ys => pickL [.a 0, .a 1] xs [] [] ys) xs ys)))
theorem sc_law_put_in : FnScope ["_law_form", "_law_values", "_law_part"] ["_law_form", "_law_values"] (defScope s_law_put_in) := ⟨rfl, rfl, rfl, by decide +kernel, rfl, by decide +kernel, by decide +kernel⟩
theorem ok_law_put_in {P : Program} {w : World} {K : PySem.W.Frag} {mg : Str → Option Value} {base : Heap} (Xf : FX P K mg) (Df : DX K) {fd : FuncData} (F : FunD K "_law_put_in" "_law_put_in" (defArgs s_law_put_in) (defBody s_law_put_in) (defScope s_law_put_in) (DZ.dvs K z0_law_put_in) (DZ.kws K z0_law_put_in) (He.ga K "_law_put_in") fd) :
    ∀ n : Nat, Z.FnOk P w K mg base (L2.CX P w) (0 + n) (He.ga K "_law_put_in") fd ["_law_form", "_law_values"] (spZ K 2 (B_law_put_in n))
  | 0 => fnOk_none
  | n + 1 => by
    have S := sc_law_put_in
    have zr := fz1 F (ok_law_put_in (P := P) (w := w) (base := base) Xf Df F n) 2 [] [.a 0, .a 1] (fun _ _ _ _ _ _ us ws h1 h2 => match us, ws, h1, h2 with | [_, _], [], _, _ => rfl)
    exact body_ok F S fun cdv A outer s H E hr => (sss_cons (ss_if (st_eq (u64 hr) (se_ix (se_var (i := 0) rfl (.inl rfl)) se_int) se_str)
  (sss_one (ss_ret (se_tup (sa_cons se_str (sa_cons (se_ix (se_var (i := 0) rfl (.inl rfl)) se_int) (sa_cons (se_if (st_tru (se_isi Xf.ins Xf.kit rfl Xf.f_isinstance (sa_cons (se_ix (se_var (i := 0) rfl (.inl rfl)) se_int) (sa_cons (se_ty rfl Xf.f_str (by decide +kernel)) sa_nil)))) (se_dget (u1 hr) (se_var (i := 1) rfl (.inr (.inl rfl))) (se_ix (se_var (i := 0) rfl (.inl rfl)) se_int) (fun _ _ => rfl)) (se_ix (se_var (i := 0) rfl (.inl rfl)) se_int)) sa_nil))))))
  sss_nil)
  (sss_one (ss_ret (se_tuple rfl Xf.f_tuple (sa_cons (se_add (se_frz (sl_lst (sa_cons (se_ix (se_var (i := 0) rfl (.inl rfl)) se_int) sa_nil))) (se_frz (sl_lc rfl S.nd (si_seq (se_slice (se_var (i := 0) rfl (.inl rfl)) (so_some se_int) so_none)) (own := [("_law_part", 2)]) (blkOk_by rfl) (fun _ _ _ _ _ => (sgc_name (i := 2) S.nd rfl (.inl rfl))) (fun _ _ _ _ _ => sts_nil) (fun _ _ _ _ _ => (se_call (zr.runs hr) (kp_law_put_in Df) Xf.g__law_put_in rfl (sa_cons (se_var (i := 2) rfl (.inl rfl)) (sa_cons (se_var (i := 1) rfl (.inr (.inl rfl))) sa_nil))))))) sa_nil)))))
abbrev G_law_put_in : FD := B_law_put_in 40
theorem z_law_put_in_2 {P : Program} {w : World} {K : PySem.W.Frag} {mg : Str → Option Value} {base : Heap} (Xf : FX P K mg) (Df : DX K) : Fz P w K mg base 40 (He.ga K "_law_put_in") 2 [] (fun xs ys => pickL [.a 0, .a 1] xs [] [] ys) G_law_put_in := by
  obtain ⟨fd, F⟩ := Df.d_law_put_in
  have G0 := ok_law_put_in (P := P) (w := w) (base := base) Xf Df F 40
  exact fz1 F G0 2 [] [.a 0, .a 1] (fun _ _ _ _ _ _ us ws h1 h2 => match us, ws, h1, h2 with | [_, _], [], _, _ => rfl)
def c_law_put_in_2 : List Vl → List Vl → Mem → Option (R Vl × Mem) := fun xs ys => G_law_put_in ((fun xs ys => pickL [.a 0, .a 1] xs [] [] ys) xs ys)
theorem c_law_put_in_2_runs {Y : Cx} (Xf : FX Y.prog Y.K Y.mg) (Df : DX Y.K) (hr : Z.Room 40 Y.A) : Z.Runs Y (He.ga Y.K "_law_put_in") 2 [] c_law_put_in_2 := (z_law_put_in_2 Xf Df).runs hr
/-! ### Filter.__eq__ -/
def D_Filter_eq : DS := (dRet (dAndV (dB (isiF csZ (kitT kitL)) (dCons (dVar 1) (dCons (dC (.glo "Filter")) (fun _ m => some (.ok [], m))))) (d2 eqF (dFld ["Filter"] "form" (dVar 0)) (dFld ["Filter"] "form" (dVar 1)))))
def B_Filter_eq : FD := bodyD 2 D_Filter_eq
theorem sc_Filter_eq : FnScope ["self", "other"] ["self", "other"] (defScope s_Filter_eq) := ⟨rfl, rfl, rfl, by decide +kernel, rfl, by decide +kernel, by decide +kernel⟩
theorem ok_Filter_eq {P : Program} {w : World} {K : PySem.W.Frag} {mg : Str → Option Value} {base : Heap} (Xf : FX P K mg) (Df : DX K) {fd : FuncData} (F : FunD K "__eq__" "Filter.__eq__" (defArgs s_Filter_eq) (defBody s_Filter_eq) (defScope s_Filter_eq) (DZ.dvs K z0_Filter_eq) (DZ.kws K z0_Filter_eq) (He.ma K (He.ga K "Filter") "__eq__") fd) :
    Z.FnOk P w K mg base (L2.CX P w) 1 (He.ma K (He.ga K "Filter") "__eq__") fd ["self", "other"] (spZ K 2 B_Filter_eq) := by
  have S := sc_Filter_eq
  exact body_ok F S fun cdv A outer s H E hr => (sss_one (ss_ret (se_and (se_isi Xf.ins Xf.kit rfl Xf.f_isinstance (sa_cons (se_var (i := 1) rfl (.inl rfl)) (sa_cons (se_glo rfl Xf.g_Filter) sa_nil))) (se_one (se_eq (u64 hr) (se_fld (se_var (i := 0) rfl (.inl rfl)) Xf.a_form_Filter) (se_fld (se_var (i := 1) rfl (.inl rfl)) Xf.a_form_Filter))))))
abbrev G_Filter_eq : FD := B_Filter_eq
theorem z_Filter_eq_2 {P : Program} {w : World} {K : PySem.W.Frag} {mg : Str → Option Value} {base : Heap} (Xf : FX P K mg) (Df : DX K) : Fz P w K mg base 1 (He.ma K (He.ga K "Filter") "__eq__") 2 [] (fun xs ys => pickL [.a 0, .a 1] xs [] [] ys) G_Filter_eq := by
  obtain ⟨fd, F⟩ := Df.d_Filter_eq
  have G0 := ok_Filter_eq (P := P) (w := w) (base := base) Xf Df F
  exact fz1 F G0 2 [] [.a 0, .a 1] (fun _ _ _ _ _ _ us ws h1 h2 => match us, ws, h1, h2 with | [_, _], [], _, _ => rfl)
/-! ### is_row -/
def D_is_row : DS := (dSeq (dIfS (tOr2 (tNot1 (tTr (dB (isiF csZ (kitT kitL)) (dCons (dVar 0) (dCons (dC (.ty "tuple")) (fun _ m => some (.ok [], m))))))) (b2 neF (dB lenF (dCons (dVar 0) (fun _ m => some (.ok [], m)))) (dC (.int 3))))
  (dRet (dC (.bl false)))
  dNil)
  (dRet (dB (quant (fun l => l.all id)) (dCons (dFrz (dLc (iSeqD (dVar 0)) (gcVar 1) dYes (dCall 1 0 c_is_value_1 (dCons (dVar 1) (fun _ m => some (.ok [], m))) dNone) ([("part", 1)].map (·.2)))) (fun _ m => some (.ok [], m))))))
def B_is_row : FD := bodyD 2 D_is_row
theorem sc_is_row : FnScope ["thing", "part"] ["thing"] (defScope s_is_row) := ⟨rfl, rfl, rfl, by decide +kernel, rfl, by decide +kernel, by decide +kernel⟩
theorem ok_is_row {P : Program} {w : World} {K : PySem.W.Frag} {mg : Str → Option Value} {base : Heap} (Xf : FX P K mg) (Df : DX K) {fd : FuncData} (F : FunD K "is_row" "is_row" (defArgs s_is_row) (defBody s_is_row) (defScope s_is_row) (DZ.dvs K z0_is_row) (DZ.kws K z0_is_row) (He.ga K "is_row") fd) :
    Z.FnOk P w K mg base (L2.CX P w) 2 (He.ga K "is_row") fd ["thing"] (spZ K 1 B_is_row) := by
  have S := sc_is_row
  exact body_ok F S fun cdv A outer s H E hr => (sss_cons (ss_if (st_w (sw_or (st_not (st_tru (se_isi Xf.ins Xf.kit rfl Xf.f_isinstance (sa_cons (se_var (i := 0) rfl (.inl rfl)) (sa_cons (se_ty rfl Xf.f_tuple (by decide +kernel)) sa_nil))))) (sw_or1 (st_ne (u64 hr) (se_len rfl Xf.f_len (sa_cons (se_var (i := 0) rfl (.inl rfl)) sa_nil)) se_int))))
  (sss_one (ss_ret se_bl))
  sss_nil)
  (sss_one (ss_ret (se_all rfl rfl Xf.f_all (sa_cons (se_frz (sl_lc rfl S.nd (si_seq (se_var (i := 0) rfl (.inl rfl))) (own := [("part", 1)]) (blkOk_by rfl) (fun _ _ _ _ _ => (sgc_name (i := 1) S.nd rfl (.inl rfl))) (fun _ _ _ _ _ => sts_nil) (fun _ _ _ _ _ => (se_call (c_is_value_1_runs Xf Df (hr.mono (by decide : 1 ≤ 1))) (kp_is_value Df) Xf.g_is_value rfl (sa_cons (se_var (i := 1) rfl (.inl rfl)) sa_nil))))) sa_nil)))))
abbrev G_is_row : FD := B_is_row
theorem z_is_row_1 {P : Program} {w : World} {K : PySem.W.Frag} {mg : Str → Option Value} {base : Heap} (Xf : FX P K mg) (Df : DX K) : Fz P w K mg base 2 (He.ga K "is_row") 1 [] (fun xs ys => pickL [.a 0] xs [] [] ys) G_is_row := by
  obtain ⟨fd, F⟩ := Df.d_is_row
  have G0 := ok_is_row (P := P) (w := w) (base := base) Xf Df F
  exact fz1 F G0 1 [] [.a 0] (fun _ _ _ _ _ _ us ws h1 h2 => match us, ws, h1, h2 with | [_], [], _, _ => rfl)
def c_is_row_1 : List Vl → List Vl → Mem → Option (R Vl × Mem) := fun xs ys => G_is_row ((fun xs ys => pickL [.a 0] xs [] [] ys) xs ys)
theorem c_is_row_1_runs {Y : Cx} (Xf : FX Y.prog Y.K Y.mg) (Df : DX Y.K) (hr : Z.Room 2 Y.A) : Z.Runs Y (He.ga Y.K "is_row") 1 [] c_is_row_1 := (z_is_row_1 Xf Df).runs hr
/-! ### Filter.look_bound -/
def D_Filter_look_bound : DS := (dSeq (dAsg 1 (dMeth "Filter" "parameters" 0 0 (fun xs ys => pickL [.a 0] xs [] [] ys) G_Filter_parameters (dVar 0) dNone dNone))
  (dIfS (b2 gtI (dB lenF (dCons (dVar 1) (fun _ m => some (.ok [], m)))) (dC (.int 0)))
  (dRaise (dMk "Unbound" "name" (dCons (d2 ixA (dVar 1) (dC (.int 0))) (fun _ m => some (.ok [], m)))))
  dNil))
def B_Filter_look_bound : FD := bodyD 2 D_Filter_look_bound
theorem sc_Filter_look_bound : FnScope ["self", "names"] ["self"] (defScope s_Filter_look_bound) := ⟨rfl, rfl, rfl, by decide +kernel, rfl, by decide +kernel, by decide +kernel⟩
theorem ok_Filter_look_bound {P : Program} {w : World} {K : PySem.W.Frag} {mg : Str → Option Value} {base : Heap} (Xf : FX P K mg) (Df : DX K) {fd : FuncData} (F : FunD K "look_bound" "Filter.look_bound" (defArgs s_Filter_look_bound) (defBody s_Filter_look_bound) (defScope s_Filter_look_bound) (DZ.dvs K z0_Filter_look_bound) (DZ.kws K z0_Filter_look_bound) (He.ma K (He.ga K "Filter") "look_bound") fd) :
    Z.FnOk P w K mg base (L2.CX P w) 43 (He.ma K (He.ga K "Filter") "look_bound") fd ["self"] (spZ K 1 B_Filter_look_bound) := by
  have S := sc_Filter_look_bound
  exact body_ok F S fun cdv A outer s H E hr => (sss_cons (ss_set (i := 1) S.nd rfl (.inl rfl) (se_meth0 (se_var (i := 0) rfl (.inl rfl)) Xf.c_Filter Xf.m_Filter_parameters (z_Filter_parameters_1 Xf Df) (hr.mono (by decide : 42 ≤ 42))))
  (sss_one (ss_if (st_gt (se_len rfl Xf.f_len (sa_cons (se_var (i := 1) rfl (.inl rfl)) sa_nil)) se_int)
  (sss_one (ss_raise rfl (sm_errN Xf.e_Unbound Xf.f_super (hr.mono (by decide : 1 ≤ 42)) Xf.g_Unbound rfl (sa_cons (se_ix (se_var (i := 1) rfl (.inl rfl)) se_int) sa_nil))))
  sss_nil)))
abbrev G_Filter_look_bound : FD := B_Filter_look_bound
theorem z_Filter_look_bound_1 {P : Program} {w : World} {K : PySem.W.Frag} {mg : Str → Option Value} {base : Heap} (Xf : FX P K mg) (Df : DX K) : Fz P w K mg base 43 (He.ma K (He.ga K "Filter") "look_bound") 1 [] (fun xs ys => pickL [.a 0] xs [] [] ys) G_Filter_look_bound := by
  obtain ⟨fd, F⟩ := Df.d_Filter_look_bound
  have G0 := ok_Filter_look_bound (P := P) (w := w) (base := base) Xf Df F
  exact fz1 F G0 1 [] [.a 0] (fun _ _ _ _ _ _ us ws h1 h2 => match us, ws, h1, h2 with | [_], [], _, _ => rfl)
/-! ### takes_cells -/
def D_takes_cells (cs : List Vl → List Vl → Mem → Option (R Vl × Mem)) : DS := (dSeq (dAsg 3 (d2 ixA (dVar 0) (dC (.int 0))))
  (dSeq (dIfS (b2 eqF (dVar 3) (dC (.str "is")))
  (dRet (d2 eqF (d2 ixA (dVar 0) (dC (.int 2))) (dIf (b2 eqF (d2 ixA (dVar 0) (dC (.int 1))) (dC (.str "a"))) (dVar 1) (dVar 2))))
  dNil)
  (dSeq (dIfS (b2 eqF (dVar 3) (dC (.str "not")))
  (dRet (dNotV (dCall 3 0 cs (dCons (d2 ixA (dVar 0) (dC (.int 1))) (dCons (dVar 1) (dCons (dVar 2) (fun _ m => some (.ok [], m))))) dNone)))
  dNil)
  (dSeq (dIfS (b2 eqF (dVar 3) (dC (.str "and")))
  (dRet (dAndV (dCall 3 0 cs (dCons (d2 ixA (dVar 0) (dC (.int 1))) (dCons (dVar 1) (dCons (dVar 2) (fun _ m => some (.ok [], m))))) dNone) (dCall 3 0 cs (dCons (d2 ixA (dVar 0) (dC (.int 2))) (dCons (dVar 1) (dCons (dVar 2) (fun _ m => some (.ok [], m))))) dNone)))
  dNil)
  (dSeq (dIfS (b2 eqF (dVar 3) (dC (.str "or")))
  (dRet (dOrV (dCall 3 0 cs (dCons (d2 ixA (dVar 0) (dC (.int 1))) (dCons (dVar 1) (dCons (dVar 2) (fun _ m => some (.ok [], m))))) dNone) (dCall 3 0 cs (dCons (d2 ixA (dVar 0) (dC (.int 2))) (dCons (dVar 1) (dCons (dVar 2) (fun _ m => some (.ok [], m))))) dNone)))
  dNil)
  (dRet (dC (.bl true))))))))
def B_takes_cells : Nat → FD
  | 0 => fun _ _ => none
  | n + 1 => bodyD 4 (D_takes_cells (fun xs ys => B_takes_cells n ((fun xs ys => pickL [.a 0, .a 1, .a 2] xs [] [] ys) xs ys)))
theorem sc_takes_cells : FnScope ["form", "a", "b", "word"] ["form", "a", "b"] (defScope s_takes_cells) := ⟨rfl, rfl, rfl, by decide +kernel, rfl, by decide +kernel, by decide +kernel⟩
theorem ok_takes_cells {P : Program} {w : World} {K : PySem.W.Frag} {mg : Str → Option Value} {base : Heap} (Xf : FX P K mg) (Df : DX K) {fd : FuncData} (F : FunD K "takes_cells" "takes_cells" (defArgs s_takes_cells) (defBody s_takes_cells) (defScope s_takes_cells) (DZ.dvs K z0_takes_cells) (DZ.kws K z0_takes_cells) (He.ga K "takes_cells") fd) :
    ∀ n : Nat, Z.FnOk P w K mg base (L2.CX P w) (0 + n) (He.ga K "takes_cells") fd ["form", "a", "b"] (spZ K 3 (B_takes_cells n))
  | 0 => fnOk_none
  | n + 1 => by
    have S := sc_takes_cells
    have zr := fz1 F (ok_takes_cells (P := P) (w := w) (base := base) Xf Df F n) 3 [] [.a 0, .a 1, .a 2] (fun _ _ _ _ _ _ us ws h1 h2 => match us, ws, h1, h2 with | [_, _, _], [], _, _ => rfl)
    exact body_ok F S fun cdv A outer s H E hr => (sss_cons (ss_set (i := 3) S.nd rfl (.inl rfl) (se_ix (se_var (i := 0) rfl (.inl rfl)) se_int))
  (sss_cons (ss_if (st_eq (u64 hr) (se_var (i := 3) rfl (.inl rfl)) se_str)
  (sss_one (ss_ret (se_eq (u64 hr) (se_ix (se_var (i := 0) rfl (.inl rfl)) se_int) (se_if (st_eq (u64 hr) (se_ix (se_var (i := 0) rfl (.inl rfl)) se_int) se_str) (se_var (i := 1) rfl (.inl rfl)) (se_var (i := 2) rfl (.inl rfl))))))
  sss_nil)
  (sss_cons (ss_if (st_eq (u64 hr) (se_var (i := 3) rfl (.inl rfl)) se_str)
  (sss_one (ss_ret (se_not (se_call (zr.runs hr) (kp_takes_cells Df) Xf.g_takes_cells rfl (sa_cons (se_ix (se_var (i := 0) rfl (.inl rfl)) se_int) (sa_cons (se_var (i := 1) rfl (.inl rfl)) (sa_cons (se_var (i := 2) rfl (.inl rfl)) sa_nil)))))))
  sss_nil)
  (sss_cons (ss_if (st_eq (u64 hr) (se_var (i := 3) rfl (.inl rfl)) se_str)
  (sss_one (ss_ret (se_and (se_call (zr.runs hr) (kp_takes_cells Df) Xf.g_takes_cells rfl (sa_cons (se_ix (se_var (i := 0) rfl (.inl rfl)) se_int) (sa_cons (se_var (i := 1) rfl (.inl rfl)) (sa_cons (se_var (i := 2) rfl (.inl rfl)) sa_nil)))) (se_one (se_call (zr.runs hr) (kp_takes_cells Df) Xf.g_takes_cells rfl (sa_cons (se_ix (se_var (i := 0) rfl (.inl rfl)) se_int) (sa_cons (se_var (i := 1) rfl (.inl rfl)) (sa_cons (se_var (i := 2) rfl (.inl rfl)) sa_nil))))))))
  sss_nil)
  (sss_cons (ss_if (st_eq (u64 hr) (se_var (i := 3) rfl (.inl rfl)) se_str)
  (sss_one (ss_ret (se_or (se_call (zr.runs hr) (kp_takes_cells Df) Xf.g_takes_cells rfl (sa_cons (se_ix (se_var (i := 0) rfl (.inl rfl)) se_int) (sa_cons (se_var (i := 1) rfl (.inl rfl)) (sa_cons (se_var (i := 2) rfl (.inl rfl)) sa_nil)))) (se_one (se_call (zr.runs hr) (kp_takes_cells Df) Xf.g_takes_cells rfl (sa_cons (se_ix (se_var (i := 0) rfl (.inl rfl)) se_int) (sa_cons (se_var (i := 1) rfl (.inl rfl)) (sa_cons (se_var (i := 2) rfl (.inl rfl)) sa_nil))))))))
  sss_nil)
  (sss_one (ss_ret se_bl)))))))
abbrev G_takes_cells : FD := B_takes_cells 40
theorem z_takes_cells_3 {P : Program} {w : World} {K : PySem.W.Frag} {mg : Str → Option Value} {base : Heap} (Xf : FX P K mg) (Df : DX K) : Fz P w K mg base 40 (He.ga K "takes_cells") 3 [] (fun xs ys => pickL [.a 0, .a 1, .a 2] xs [] [] ys) G_takes_cells := by
  obtain ⟨fd, F⟩ := Df.d_takes_cells
  have G0 := ok_takes_cells (P := P) (w := w) (base := base) Xf Df F 40
  exact fz1 F G0 3 [] [.a 0, .a 1, .a 2] (fun _ _ _ _ _ _ us ws h1 h2 => match us, ws, h1, h2 with | [_, _, _], [], _, _ => rfl)
def c_takes_cells_3 : List Vl → List Vl → Mem → Option (R Vl × Mem) := fun xs ys => G_takes_cells ((fun xs ys => pickL [.a 0, .a 1, .a 2] xs [] [] ys) xs ys)
theorem c_takes_cells_3_runs {Y : Cx} (Xf : FX Y.prog Y.K Y.mg) (Df : DX Y.K) (hr : Z.Room 40 Y.A) : Z.Runs Y (He.ga Y.K "takes_cells") 3 [] c_takes_cells_3 := (z_takes_cells_3 Xf Df).runs hr
/-! ### Filter.takes -/
def D_Filter_takes : DS := (dRet (dCall 3 0 c_takes_cells_3 (dCons (dFld ["Filter"] "form" (dVar 0)) (dCons (dVar 1) (dCons (dVar 2) (fun _ m => some (.ok [], m))))) dNone))
def B_Filter_takes : FD := bodyD 3 D_Filter_takes
theorem sc_Filter_takes : FnScope ["self", "a", "b"] ["self", "a", "b"] (defScope s_Filter_takes) := ⟨rfl, rfl, rfl, by decide +kernel, rfl, by decide +kernel, by decide +kernel⟩
theorem ok_Filter_takes {P : Program} {w : World} {K : PySem.W.Frag} {mg : Str → Option Value} {base : Heap} (Xf : FX P K mg) (Df : DX K) {fd : FuncData} (F : FunD K "takes" "Filter.takes" (defArgs s_Filter_takes) (defBody s_Filter_takes) (defScope s_Filter_takes) (DZ.dvs K z0_Filter_takes) (DZ.kws K z0_Filter_takes) (He.ma K (He.ga K "Filter") "takes") fd) :
    Z.FnOk P w K mg base (L2.CX P w) 41 (He.ma K (He.ga K "Filter") "takes") fd ["self", "a", "b"] (spZ K 3 B_Filter_takes) := by
  have S := sc_Filter_takes
  exact body_ok F S fun cdv A outer s H E hr => (sss_one (ss_ret (se_call (c_takes_cells_3_runs Xf Df (hr.mono (by decide : 40 ≤ 40))) (kp_takes_cells Df) Xf.g_takes_cells rfl (sa_cons (se_fld (se_var (i := 0) rfl (.inl rfl)) Xf.a_form_Filter) (sa_cons (se_var (i := 1) rfl (.inl rfl)) (sa_cons (se_var (i := 2) rfl (.inl rfl)) sa_nil))))))
abbrev G_Filter_takes : FD := B_Filter_takes
theorem z_Filter_takes_3 {P : Program} {w : World} {K : PySem.W.Frag} {mg : Str → Option Value} {base : Heap} (Xf : FX P K mg) (Df : DX K) : Fz P w K mg base 41 (He.ma K (He.ga K "Filter") "takes") 3 [] (fun xs ys => pickL [.a 0, .a 1, .a 2] xs [] [] ys) G_Filter_takes := by
  obtain ⟨fd, F⟩ := Df.d_Filter_takes
  have G0 := ok_Filter_takes (P := P) (w := w) (base := base) Xf Df F
  exact fz1 F G0 3 [] [.a 0, .a 1, .a 2] (fun _ _ _ _ _ _ us ws h1 h2 => match us, ws, h1, h2 with | [_, _, _], [], _, _ => rfl)
/-! ### Filter.__call__ -/
def D_Filter_call : DS := (dSeq (dIfS (tNot1 (tTr (dCall 1 0 c_is_row_1 (dCons (dVar 1) (fun _ m => some (.ok [], m))) dNone)))
  (dRaise (dMk "BadRow" "row" (dCons (dVar 1) (fun _ m => some (.ok [], m)))))
  dNil)
  (dSeq (dDrop (dMeth "Filter" "look_bound" 0 0 (fun xs ys => pickL [.a 0] xs [] [] ys) G_Filter_look_bound (dVar 0) dNone dNone))
  (dRet (dMeth "Filter" "takes" 2 0 (fun xs ys => pickL [.a 0, .a 1, .a 2] xs [] [] ys) G_Filter_takes (dVar 0) (dCons (d2 ixA (dVar 1) (dC (.int 1))) (dCons (d2 ixA (dVar 1) (dC (.int 2))) (fun _ m => some (.ok [], m)))) dNone))))
def B_Filter_call : FD := bodyD 2 D_Filter_call
theorem sc_Filter_call : FnScope ["self", "row"] ["self", "row"] (defScope s_Filter_call) := ⟨rfl, rfl, rfl, by decide +kernel, rfl, by decide +kernel, by decide +kernel⟩
theorem ok_Filter_call {P : Program} {w : World} {K : PySem.W.Frag} {mg : Str → Option Value} {base : Heap} (Xf : FX P K mg) (Df : DX K) {fd : FuncData} (F : FunD K "__call__" "Filter.__call__" (defArgs s_Filter_call) (defBody s_Filter_call) (defScope s_Filter_call) (DZ.dvs K z0_Filter_call) (DZ.kws K z0_Filter_call) (He.ma K (He.ga K "Filter") "__call__") fd) :
    Z.FnOk P w K mg base (L2.CX P w) 44 (He.ma K (He.ga K "Filter") "__call__") fd ["self", "row"] (spZ K 2 B_Filter_call) := by
  have S := sc_Filter_call
  exact body_ok F S fun cdv A outer s H E hr => (sss_cons (ss_if (st_not (st_tru (se_call (c_is_row_1_runs Xf Df (hr.mono (by decide : 2 ≤ 43))) (kp_is_row Df) Xf.g_is_row rfl (sa_cons (se_var (i := 1) rfl (.inl rfl)) sa_nil))))
  (sss_one (ss_raise rfl (sm_errN Xf.e_BadRow Xf.f_super (hr.mono (by decide : 1 ≤ 43)) Xf.g_BadRow rfl (sa_cons (se_var (i := 1) rfl (.inl rfl)) sa_nil))))
  sss_nil)
  (sss_cons (ss_expr (se_meth0 (se_var (i := 0) rfl (.inl rfl)) Xf.c_Filter Xf.m_Filter_look_bound (z_Filter_look_bound_1 Xf Df) (hr.mono (by decide : 43 ≤ 43))))
  (sss_one (ss_ret (se_meth (se_var (i := 0) rfl (.inl rfl)) Xf.c_Filter Xf.m_Filter_takes (z_Filter_takes_3 Xf Df) (hr.mono (by decide : 41 ≤ 43)) (sa_cons (se_ix (se_var (i := 1) rfl (.inl rfl)) se_int) (sa_cons (se_ix (se_var (i := 1) rfl (.inl rfl)) se_int) sa_nil)))))))
abbrev G_Filter_call : FD := B_Filter_call
theorem z_Filter_call_2 {P : Program} {w : World} {K : PySem.W.Frag} {mg : Str → Option Value} {base : Heap} (Xf : FX P K mg) (Df : DX K) : Fz P w K mg base 44 (He.ma K (He.ga K "Filter") "__call__") 2 [] (fun xs ys => pickL [.a 0, .a 1] xs [] [] ys) G_Filter_call := by
  obtain ⟨fd, F⟩ := Df.d_Filter_call
  have G0 := ok_Filter_call (P := P) (w := w) (base := base) Xf Df F
  exact fz1 F G0 2 [] [.a 0, .a 1] (fun _ _ _ _ _ _ us ws h1 h2 => match us, ws, h1, h2 with | [_, _], [], _, _ => rfl)
/-! ### _law_takes -/
def D_law_takes (cs : List Vl → List Vl → Mem → Option (R Vl × Mem)) : DS := (dSeq (dIfS (b2 eqF (d2 ixA (dVar 0) (dC (.int 0))) (dC (.str "is")))
  (dRet (d2 eqF (d2 ixA (dVar 1) (dIf (b2 eqF (d2 ixA (dVar 0) (dC (.int 1))) (dC (.str "a"))) (dC (.int 1)) (dC (.int 2)))) (d2 ixA (dVar 0) (dC (.int 2)))))
  dNil)
  (dSeq (dIfS (b2 eqF (d2 ixA (dVar 0) (dC (.int 0))) (dC (.str "not")))
  (dRet (dNotV (dCall 2 0 cs (dCons (d2 ixA (dVar 0) (dC (.int 1))) (dCons (dVar 1) (fun _ m => some (.ok [], m)))) dNone)))
  dNil)
  (dSeq (dIfS (b2 eqF (d2 ixA (dVar 0) (dC (.int 0))) (dC (.str "and")))
  (dRet (dAndV (dCall 2 0 cs (dCons (d2 ixA (dVar 0) (dC (.int 1))) (dCons (dVar 1) (fun _ m => some (.ok [], m)))) dNone) (dCall 2 0 cs (dCons (d2 ixA (dVar 0) (dC (.int 2))) (dCons (dVar 1) (fun _ m => some (.ok [], m)))) dNone)))
  dNil)
  (dRet (dOrV (d2 eqF (d2 ixA (dVar 0) (dC (.int 0))) (dC (.str "all"))) (dOrV (dCall 2 0 cs (dCons (d2 ixA (dVar 0) (dC (.int 1))) (dCons (dVar 1) (fun _ m => some (.ok [], m)))) dNone) (dCall 2 0 cs (dCons (d2 ixA (dVar 0) (dC (.int 2))) (dCons (dVar 1) (fun _ m => some (.ok [], m)))) dNone)))))))
def B_law_takes : Nat → FD
  | 0 => fun _ _ => none
  | n + 1 => bodyD 2 (D_law_takes (fun xs ys => B_law_takes n ((fun xs ys => pickL [.a 0, .a 1] xs [] [] ys) xs ys)))
theorem sc_law_takes : FnScope ["_law_form", "_law_row"] ["_law_form", "_law_row"] (defScope s_law_takes) := ⟨rfl, rfl, rfl, by decide +kernel, rfl, by decide +kernel, by decide +kernel⟩
theorem ok_law_takes {P : Program} {w : World} {K : PySem.W.Frag} {mg : Str → Option Value} {base : Heap} (Xf : FX P K mg) (Df : DX K) {fd : FuncData} (F : FunD K "_law_takes" "_law_takes" (defArgs s_law_takes) (defBody s_law_takes) (defScope s_law_takes) (DZ.dvs K z0_law_takes) (DZ.kws K z0_law_takes) (He.ga K "_law_takes") fd) :
    ∀ n : Nat, Z.FnOk P w K mg base (L2.CX P w) (0 + n) (He.ga K "_law_takes") fd ["_law_form", "_law_row"] (spZ K 2 (B_law_takes n))
  | 0 => fnOk_none
  | n + 1 => by
    have S := sc_law_takes
    have zr := fz1 F (ok_law_takes (P := P) (w := w) (base := base) Xf Df F n) 2 [] [.a 0, .a 1] (fun _ _ _ _ _ _ us ws h1 h2 => match us, ws, h1, h2 with | [_, _], [], _, _ => rfl)
    exact body_ok F S fun cdv A outer s H E hr => (sss_cons (ss_if (st_eq (u64 hr) (se_ix (se_var (i := 0) rfl (.inl rfl)) se_int) se_str)
  (sss_one (ss_ret (se_eq (u64 hr) (se_ix (se_var (i := 1) rfl (.inl rfl)) (se_if (st_eq (u64 hr) (se_ix (se_var (i := 0) rfl (.inl rfl)) se_int) se_str) se_int se_int)) (se_ix (se_var (i := 0) rfl (.inl rfl)) se_int))))
  sss_nil)
  (sss_cons (ss_if (st_eq (u64 hr) (se_ix (se_var (i := 0) rfl (.inl rfl)) se_int) se_str)
  (sss_one (ss_ret (se_not (se_call (zr.runs hr) (kp_law_takes Df) Xf.g__law_takes rfl (sa_cons (se_ix (se_var (i := 0) rfl (.inl rfl)) se_int) (sa_cons (se_var (i := 1) rfl (.inl rfl)) sa_nil))))))
  sss_nil)
  (sss_cons (ss_if (st_eq (u64 hr) (se_ix (se_var (i := 0) rfl (.inl rfl)) se_int) se_str)
  (sss_one (ss_ret (se_and (se_call (zr.runs hr) (kp_law_takes Df) Xf.g__law_takes rfl (sa_cons (se_ix (se_var (i := 0) rfl (.inl rfl)) se_int) (sa_cons (se_var (i := 1) rfl (.inl rfl)) sa_nil))) (se_one (se_call (zr.runs hr) (kp_law_takes Df) Xf.g__law_takes rfl (sa_cons (se_ix (se_var (i := 0) rfl (.inl rfl)) se_int) (sa_cons (se_var (i := 1) rfl (.inl rfl)) sa_nil)))))))
  sss_nil)
  (sss_one (ss_ret (se_or (se_eq (u64 hr) (se_ix (se_var (i := 0) rfl (.inl rfl)) se_int) se_str) (se_or (se_call (zr.runs hr) (kp_law_takes Df) Xf.g__law_takes rfl (sa_cons (se_ix (se_var (i := 0) rfl (.inl rfl)) se_int) (sa_cons (se_var (i := 1) rfl (.inl rfl)) sa_nil))) (se_one (se_call (zr.runs hr) (kp_law_takes Df) Xf.g__law_takes rfl (sa_cons (se_ix (se_var (i := 0) rfl (.inl rfl)) se_int) (sa_cons (se_var (i := 1) rfl (.inl rfl)) sa_nil)))))))))))
abbrev G_law_takes : FD := B_law_takes 40
theorem z_law_takes_2 {P : Program} {w : World} {K : PySem.W.Frag} {mg : Str → Option Value} {base : Heap} (Xf : FX P K mg) (Df : DX K) : Fz P w K mg base 40 (He.ga K "_law_takes") 2 [] (fun xs ys => pickL [.a 0, .a 1] xs [] [] ys) G_law_takes := by
  obtain ⟨fd, F⟩ := Df.d_law_takes
  have G0 := ok_law_takes (P := P) (w := w) (base := base) Xf Df F 40
  exact fz1 F G0 2 [] [.a 0, .a 1] (fun _ _ _ _ _ _ us ws h1 h2 => match us, ws, h1, h2 with | [_, _], [], _, _ => rfl)
def c_law_takes_2 : List Vl → List Vl → Mem → Option (R Vl × Mem) := fun xs ys => G_law_takes ((fun xs ys => pickL [.a 0, .a 1] xs [] [] ys) xs ys)
theorem c_law_takes_2_runs {Y : Cx} (Xf : FX Y.prog Y.K Y.mg) (Df : DX Y.K) (hr : Z.Room 40 Y.A) : Z.Runs Y (He.ga Y.K "_law_takes") 2 [] c_law_takes_2 := (z_law_takes_2 Xf Df).runs hr
/-! ### law -/
def D_law_0_0 : DS := (dAsg 2 (dCall 2 0 h_law_start_2 (dCons (dVar 0) (dCons (dVar 1) (fun _ m => some (.ok [], m)))) dNone))
def D_law_0_1 : DS := (dAsg 3 (dFrz (dLst (dCons (dC (.str "v")) (dCons (dC (.str "all")) (dCons (dC (.str "vv")) (dCons (dC (.str "a")) (fun _ m => some (.ok [], m)))))))))
def D_law_0_2_0 : DS := (dAsgG (gTupD (gsCons (gVar 7) (gsCons (gVar 8) gsNil))) (dCall 3 0 c_law_chosen_3 (dCons (dVar 2) (dCons (d2 addA (dC (.int 1)) (dCall 2 0 c_law_draw_2 (dCons (dVar 2) (dCons (dC (.int 8)) (fun _ m => some (.ok [], m)))) dNone)) (dCons (d2 addA (dVar 3) (dFrz (dLst (dCons (dC (.int 0)) (dCons (dCall 1 0 c_law_cell_1 (dCons (dVar 2) (fun _ m => some (.ok [], m))) dNone) (fun _ m => some (.ok [], m))))))) (fun _ m => some (.ok [], m))))) dNone))
def D_law_0_2_1 : DS := (dAsg 5 (dCall 1 0 h_law_once_1 (dCons (dFrz (dLc (iSeqD (dCall 1 0 c_law_pairs_1 (dCons (dVar 8) (fun _ m => some (.ok [], m))) dNone)) (gcVar 17) (tTr (dB (isiF csZ (kitT kitL)) (dCons (d2 ixA (dVar 17) (dC (.int 1))) (dCons (dC (.ty "str")) (fun _ m => some (.ok [], m)))))) (d2 ixA (dVar 17) (dC (.int 1))) ([("_law_pair", 17)].map (·.2)))) (fun _ m => some (.ok [], m))) dNone))
def D_law_0_2_2_0 : DS := (dAsg 9 dNewK)
def D_law_0_2_2_1_0_0 : DS := (dPutK (dVar 9) (dVar 10) (dCall 1 0 c_law_cell_1 (dCons (dVar 2) (fun _ m => some (.ok [], m))) dNone))
def D_law_0_2_2_1_0 : DS := (dIfS (tOr2 (b2 eqF (dVar 6) (dC (.int 0))) (b2 gtI (dCall 2 0 c_law_draw_2 (dCons (dVar 2) (dCons (dC (.int 3)) (fun _ m => some (.ok [], m)))) dNone) (dC (.int 0))))
  D_law_0_2_2_1_0_0
  dNil)
def D_law_0_2_2_1 : DS := (dForW (wLst (dCall 2 0 c_law_turned_2 (dCons (dVar 2) (dCons (d2 addA (dVar 3) (dFrz (dLst (dCons (dC (.str "b")) (dCons (dC (.str "zzzzzzzz")) (fun _ m => some (.ok [], m))))))) (fun _ m => some (.ok [], m)))) dNone)) (gVar 10)
  D_law_0_2_2_1_0)
def D_law_0_2_2_2 : DS := (dAsgL 11 false (dLc (iSeqD (dVar 5)) (gcVar 10) (tB' (d2 (inK true) (dVar 10) (dVar 9))) (dVar 10) ([("_law_name", 10)].map (·.2))))
def D_law_0_2_2_3 : DS := (dAsg 12 (dB reprK (dCons (dVar 9) (fun _ m => some (.ok [], m)))))
def D_law_0_2_2_4 : DS := (dAsgG (gTupD (gsCons (gVar 13) (gsCons (gVar 14) gsNil))) (dCall 2 0 c_law_bound_2 (dCons (dVar 7) (dCons (dVar 9) (fun _ m => some (.ok [], m)))) dNone))
def D_law_0_2_2_5_0 : DS := (dRet (dC (.bl false)))
def D_law_0_2_2_5 : DS := (dIfS (tOr2 (b2 neF (dVar 14) (dIf (b2 neF (dVar 11) (dFrz (dLst (fun _ m => some (.ok [], m))))) (d2 ixA (dVar 11) (dC (.int 0))) (dC .non))) (b2 neF (dB reprK (dCons (dVar 9) (fun _ m => some (.ok [], m)))) (dVar 12)))
  D_law_0_2_2_5_0
  dNil)
def D_law_0_2_2_6_0 : DS := (dAsg 15 (dCall 2 0 c_law_put_in_2 (dCons (dVar 8) (dCons (dVar 9) (fun _ m => some (.ok [], m)))) dNone))
def D_law_0_2_2_6_1 : DS := (dPutK (dVar 9) (dC (.str "v")) (dC (.int 400)))
def D_law_0_2_2_6_2_0 : DS := (dRet (dC (.bl false)))
def D_law_0_2_2_6_2 : DS := (dIfS (tOr2 (b2 neF (dB reprF (dCons (dFld ["Filter"] "form" (dVar 13)) (fun _ m => some (.ok [], m)))) (dB reprF (dCons (dVar 15) (fun _ m => some (.ok [], m))))) (b2 neF (dMeth "Filter" "parameters" 0 0 (fun xs ys => pickL [.a 0] xs [] [] ys) G_Filter_parameters (dVar 13) dNone dNone) (dFrz (dLst (fun _ m => some (.ok [], m))))))
  D_law_0_2_2_6_2_0
  dNil)
def D_law_0_2_2_6_3 : DS := (dAsg 16 (dTup (dCons (dCall 1 0 c_law_cell_1 (dCons (dVar 2) (fun _ m => some (.ok [], m))) dNone) (dCons (dCall 1 0 c_law_cell_1 (dCons (dVar 2) (fun _ m => some (.ok [], m))) dNone) (dCons (dCall 1 0 c_law_cell_1 (dCons (dVar 2) (fun _ m => some (.ok [], m))) dNone) (fun _ m => some (.ok [], m)))))))
def D_law_0_2_2_6_4_0 : DS := (dRet (dC (.bl false)))
def D_law_0_2_2_6_4 : DS := (dIfS (tOr2 (b2 neF (dB reprF (dCons (dICall "Filter" 1 (fun xs ys => pickL [.a 0, .a 1] xs [] [] ys) G_Filter_call (dVar 13) (dCons (dVar 16) (fun _ m => some (.ok [], m)))) (fun _ m => some (.ok [], m)))) (dB reprF (dCons (dCall 2 0 c_law_takes_2 (dCons (dVar 15) (dCons (dVar 16) (fun _ m => some (.ok [], m)))) dNone) (fun _ m => some (.ok [], m))))) (b2 neF (dCmpO "Filter" csZ tsZ (fun xs ys => pickL [.a 0, .a 1] xs [] [] ys) G_Filter_eq (dVar 13) (dVar 7)) (d2 eqF (dVar 5) (dFrz (dLst (fun _ m => some (.ok [], m)))))))
  D_law_0_2_2_6_4_0
  dNil)
def D_law_0_2_2_6_5_0 : DS := (dRet (dC (.bl false)))
def D_law_0_2_2_6_5 : DS := (dIfS (tNot1 (b2 eqF (dFld ["Filter"] "form" (dMeth "Filter" "bound" 1 0 (fun xs ys => pickL [.a 0, .a 1] xs [] [] ys) G_Filter_bound (dMeth "Filter" "bound" 0 1 (fun xs ys => pickL [.a 0, .k 0] xs [] [] ys) G_Filter_bound (dVar 7) dNone (dCons (dB copyK (dCons (dVar 9) (fun _ m => some (.ok [], m)))) (fun _ m => some (.ok [], m)))) (dCons dNewK (fun _ m => some (.ok [], m))) dNone)) (dCall 2 0 c_law_put_in_2 (dCons (dVar 8) (dCons (dVar 9) (fun _ m => some (.ok [], m)))) dNone)))
  D_law_0_2_2_6_5_0
  dNil)
def D_law_0_2_2_6 : DS := (dIfS (b2 eqF (dVar 11) (dFrz (dLst (fun _ m => some (.ok [], m)))))
  (dSeq D_law_0_2_2_6_0
  (dSeq D_law_0_2_2_6_1
  (dSeq D_law_0_2_2_6_2
  (dSeq D_law_0_2_2_6_3
  (dSeq D_law_0_2_2_6_4
  D_law_0_2_2_6_5)))))
  dNil)
def D_law_0_2_2_7_0 : DS := (dRet (dC (.bl false)))
def D_law_0_2_2_7 : DS := (dIfS (b2 neF (dB reprF (dCons (dFld ["Filter"] "form" (dVar 7)) (fun _ m => some (.ok [], m)))) (dB reprF (dCons (dVar 8) (fun _ m => some (.ok [], m)))))
  D_law_0_2_2_7_0
  dNil)
def D_law_0_2_2 : DS := (dFor (iRg1 (dCons (dC (.int 3)) (fun _ m => some (.ok [], m)))) (gVar 6)
  (dSeq D_law_0_2_2_0
  (dSeq D_law_0_2_2_1
  (dSeq D_law_0_2_2_2
  (dSeq D_law_0_2_2_3
  (dSeq D_law_0_2_2_4
  (dSeq D_law_0_2_2_5
  (dSeq D_law_0_2_2_6
  D_law_0_2_2_7))))))))
def D_law_0_2 : DS := (dFor (iRg1 (dCons (dCall 2 0 c_law_pick_2 (dCons (dVar 2) (dCons (dFrz (dLst (dCons (dC (.int 1)) (dCons (dC (.int 2)) (dCons (dC (.int 4)) (fun _ m => some (.ok [], m))))))) (fun _ m => some (.ok [], m)))) dNone) (fun _ m => some (.ok [], m)))) (gVar 4)
  (dSeq D_law_0_2_0
  (dSeq D_law_0_2_1
  D_law_0_2_2)))
def D_law_0 : DS := (dFor (iRg1 (dCons (dB (two maxZ) (dCons (dC (.int 1)) (dCons (dB (two minZ) (dCons (dC (.int 5)) (dCons (dB lenF (dCons (dVar 0) (fun _ m => some (.ok [], m)))) (fun _ m => some (.ok [], m))))) (fun _ m => some (.ok [], m))))) (fun _ m => some (.ok [], m)))) (gVar 1)
  (dSeq D_law_0_0
  (dSeq D_law_0_1
  D_law_0_2)))
def D_law_1 : DS := (dAsg 18 (dBinC "Filter" (fun xs ys => pickL [.a 0, .a 1] xs [] [] ys) G_Filter_and (dCmpO "Column" csZ tsZ (fun xs ys => pickL [.a 0, .a 1] xs [] [] ys) G_Column_eq (dCall 1 0 n_Column_init_2 (dCons (dC (.str "a")) (fun _ m => some (.ok [], m))) dNone) (dC (.str "v"))) (dInv "Filter" (fun xs ys => pickL [.a 0] xs [] [] ys) G_Filter_invert (dCmpO "Column" csZ tsZ (fun xs ys => pickL [.a 0, .a 1] xs [] [] ys) G_Column_eq (dCall 1 0 n_Column_init_2 (dCons (dC (.str "b")) (fun _ m => some (.ok [], m))) dNone) (dC (.int 3))))))
def D_law_2 : DS := (dRet (dAndV (dCmpO "Filter" csZ tsZ (fun xs ys => pickL [.a 0, .a 1] xs [] [] ys) G_Filter_eq (dMeth "Filter" "bound" 1 0 (fun xs ys => pickL [.a 0, .a 1] xs [] [] ys) G_Filter_bound (dVar 18) (dCons (dDisp [((dC (.str "v")), (dC (.int 8)))]) (fun _ m => some (.ok [], m))) dNone) (dBinC "Filter" (fun xs ys => pickL [.a 0, .a 1] xs [] [] ys) G_Filter_and (dCmpO "Column" csZ tsZ (fun xs ys => pickL [.a 0, .a 1] xs [] [] ys) G_Column_eq (dCall 1 0 n_Column_init_2 (dCons (dC (.str "a")) (fun _ m => some (.ok [], m))) dNone) (dC (.int 8))) (dCmpO "Column" csZ tsZ (fun xs ys => pickL [.a 0, .a 1] xs [] [] ys) G_Column_ne (dCall 1 0 n_Column_init_2 (dCons (dC (.str "b")) (fun _ m => some (.ok [], m))) dNone) (dC (.int 3))))) (d2 eqF (dMeth "Filter" "parameters" 0 0 (fun xs ys => pickL [.a 0] xs [] [] ys) G_Filter_parameters (dVar 18) dNone dNone) (dFrz (dLst (dCons (dC (.str "v")) (fun _ m => some (.ok [], m))))))))
def D_law : DS := (dSeq D_law_0
  (dSeq D_law_1
  D_law_2))
def B_law : FD := bodyD 19 D_law
theorem sc_law : FnScope ["_law_script", "_law_turn", "_law_bag", "_law_names", "_law_step", "_law_met", "_law_place", "_law_chosen_here", "_law_form", "_law_values", "_law_name", "_law_lacking", "_law_shown", "_law_found", "_law_raised", "_law_due", "_law_row", "_law_pair", "_law_built"] ["_law_script"] (defScope s_law) := ⟨rfl, rfl, rfl, by decide +kernel, rfl, by decide +kernel, by decide +kernel⟩
theorem ok_law {P : Program} {w : World} {K : PySem.W.Frag} {mg : Str → Option Value} {base : Heap} (Xf : FX P K mg) (Df : DX K) {fd : FuncData} (F : FunD K "law" "law" (defArgs s_law) (defBody s_law) (defScope s_law) (DZ.dvs K z0_law) (DZ.kws K z0_law) (He.ga K "law") fd) :
    Z.FnOk P w K mg base (L2.CX P w) 45 (He.ga K "law") fd ["_law_script"] (spZ K 1 B_law) := by
  have S := sc_law
  exact body_ok F S fun cdv A outer s H E hr => (sss_cons (ss_for (passes_of rfl) rfl (si_range1 rfl Xf.f_range (sa_cons (se_max2 rfl rfl Xf.f_max (sa_cons se_int (sa_cons (se_min2 rfl rfl Xf.f_min (sa_cons se_int (sa_cons (se_len rfl Xf.f_len (sa_cons (se_var (i := 0) rfl (.inl rfl)) sa_nil)) sa_nil))) sa_nil))) sa_nil)) (sg_name (i := 1) S.nd rfl (.inl rfl))
  (sss_cons (ss_set (i := 2) S.nd rfl (.inl rfl) (se_call (h_law_start_2_runs Xf Df (hr.mono (by decide : 1 ≤ 44))) (kp_law_start Df) Xf.g__law_start rfl (sa_cons (se_var (i := 0) rfl (.inl rfl)) (sa_cons (se_var (i := 1) rfl (.inl rfl)) sa_nil))))
  (sss_cons (ss_set (i := 3) S.nd rfl (.inl rfl) (se_frz (sl_lst (sa_cons se_str (sa_cons se_str (sa_cons se_str (sa_cons se_str sa_nil)))))))
  (sss_one (ss_for (passes_of rfl) rfl (si_range1 rfl Xf.f_range (sa_cons (se_call (c_law_pick_2_runs Xf Df (hr.mono (by decide : 2 ≤ 44))) (kp_law_pick Df) Xf.g__law_pick rfl (sa_cons (se_var (i := 2) rfl (.inl rfl)) (sa_cons (se_frz (sl_lst (sa_cons se_int (sa_cons se_int (sa_cons se_int sa_nil))))) sa_nil))) sa_nil)) (sg_name (i := 4) S.nd rfl (.inl rfl))
  (sss_cons (ss_asg (se_call (c_law_chosen_3_runs Xf Df (hr.mono (by decide : 43 ≤ 44))) (kp_law_chosen Df) Xf.g__law_chosen rfl (sa_cons (se_var (i := 2) rfl (.inl rfl)) (sa_cons (se_add se_int (se_call (c_law_draw_2_runs Xf Df (hr.mono (by decide : 1 ≤ 44))) (kp_law_draw Df) Xf.g__law_draw rfl (sa_cons (se_var (i := 2) rfl (.inl rfl)) (sa_cons se_int sa_nil)))) (sa_cons (se_add (se_var (i := 3) rfl (.inl rfl)) (se_frz (sl_lst (sa_cons se_int (sa_cons (se_call (c_law_cell_1_runs Xf Df (hr.mono (by decide : 2 ≤ 44))) (kp_law_cell Df) Xf.g__law_cell rfl (sa_cons (se_var (i := 2) rfl (.inl rfl)) sa_nil)) sa_nil))))) sa_nil)))) (sg_tup rfl (sgs_cons (sg_name (i := 7) S.nd rfl (.inl rfl)) (sgs_cons (sg_name (i := 8) S.nd rfl (.inl rfl)) sgs_nil)) (gsl_cons (gsl_cons gsl_nil))))
  (sss_cons (ss_set (i := 5) S.nd rfl (.inl rfl) (se_call (h_law_once_1_runs Xf Df (hr.mono (by decide : 1 ≤ 44))) (kp_law_once Df) Xf.g__law_once rfl (sa_cons (se_frz (sl_lc rfl S.nd (si_seq (se_call (c_law_pairs_1_runs Xf Df (hr.mono (by decide : 40 ≤ 44))) (kp_law_pairs Df) Xf.g__law_pairs rfl (sa_cons (se_var (i := 8) rfl (.inl rfl)) sa_nil))) (own := [("_law_pair", 17)]) (blkOk_by rfl) (fun _ _ _ _ _ => (sgc_name (i := 17) S.nd rfl (.inl rfl))) (fun _ _ _ _ _ => (sts_one (st_tru (se_isi Xf.ins Xf.kit rfl Xf.f_isinstance (sa_cons (se_ix (se_var (i := 17) rfl (.inl rfl)) se_int) (sa_cons (se_ty rfl Xf.f_str (by decide +kernel)) sa_nil)))))) (fun _ _ _ _ _ => (se_ix (se_var (i := 17) rfl (.inl rfl)) se_int)))) sa_nil)))
  (sss_one (ss_for (passes_of rfl) rfl (si_range1 rfl Xf.f_range (sa_cons se_int sa_nil)) (sg_name (i := 6) S.nd rfl (.inl rfl))
  (sss_cons (ss_set (i := 9) S.nd rfl (.inr rfl) se_dnew)
  (sss_cons (ss_forW (passes_of rfl) rfl (siw_list (se_call (c_law_turned_2_runs Xf Df (hr.mono (by decide : 2 ≤ 44))) (kp_law_turned Df) Xf.g__law_turned rfl (sa_cons (se_var (i := 2) rfl (.inl rfl)) (sa_cons (se_add (se_var (i := 3) rfl (.inl rfl)) (se_frz (sl_lst (sa_cons se_str (sa_cons se_str sa_nil))))) sa_nil)))) (sg_name (i := 10) S.nd rfl (.inl rfl))
  (sss_one (ss_if (st_w (sw_or (st_eq (u64 hr) (se_var (i := 6) rfl (.inl rfl)) se_int) (sw_or1 (st_gt (se_call (c_law_draw_2_runs Xf Df (hr.mono (by decide : 1 ≤ 44))) (kp_law_draw Df) Xf.g__law_draw rfl (sa_cons (se_var (i := 2) rfl (.inl rfl)) (sa_cons se_int sa_nil))) se_int))))
  (sss_one (ss_dput (u1 hr) (se_var (i := 9) rfl (.inr (.inl rfl))) (se_var (i := 10) rfl (.inl rfl)) (se_call (c_law_cell_1_runs Xf Df (hr.mono (by decide : 2 ≤ 44))) (kp_law_cell Df) Xf.g__law_cell rfl (sa_cons (se_var (i := 2) rfl (.inl rfl)) sa_nil))))
  sss_nil)))
  (sss_cons (ss_setLc (i := 11) (cell := false) rfl S.nd rfl rfl (by rfl) (si_seq (se_var (i := 5) rfl (.inl rfl))) (own := [("_law_name", 10)]) (blkOk_by rfl) (fun _ _ _ _ _ => (sgc_name (i := 10) S.nd rfl (.inl rfl))) (fun _ _ _ _ _ => (sts_one (st_cmpE (se_dnotin (u1 hr) (se_var (i := 10) rfl (.inl rfl)) (se_var (i := 9) rfl (.inr (.inl rfl))))))) (fun _ _ _ _ _ => (se_var (i := 10) rfl (.inl rfl))))
  (sss_cons (ss_set (i := 12) S.nd rfl (.inl rfl) (se_reprK (hr.mono (Nat.zero_le _)) rfl Xf.f_repr (sa_cons (se_var (i := 9) rfl (.inr (.inl rfl))) sa_nil)))
  (sss_cons (ss_asg (se_call (c_law_bound_2_runs Xf Df (hr.mono (by decide : 44 ≤ 44))) (kp_law_bound Df) Xf.g__law_bound rfl (sa_cons (se_var (i := 7) rfl (.inl rfl)) (sa_cons (se_var (i := 9) rfl (.inr (.inl rfl))) sa_nil))) (sg_tup rfl (sgs_cons (sg_name (i := 13) S.nd rfl (.inl rfl)) (sgs_cons (sg_name (i := 14) S.nd rfl (.inl rfl)) sgs_nil)) (gsl_cons (gsl_cons gsl_nil))))
  (sss_cons (ss_if (st_w (sw_or (st_ne (u64 hr) (se_var (i := 14) rfl (.inl rfl)) (se_if (st_ne (u64 hr) (se_var (i := 11) rfl (.inl rfl)) (se_frz (sl_lst sa_nil))) (se_ix (se_var (i := 11) rfl (.inl rfl)) se_int) se_non)) (sw_or1 (st_ne (u64 hr) (se_reprK (hr.mono (Nat.zero_le _)) rfl Xf.f_repr (sa_cons (se_var (i := 9) rfl (.inr (.inl rfl))) sa_nil)) (se_var (i := 12) rfl (.inl rfl))))))
  (sss_one (ss_ret se_bl))
  sss_nil)
  (sss_cons (ss_if (st_eq (u64 hr) (se_var (i := 11) rfl (.inl rfl)) (se_frz (sl_lst sa_nil)))
  (sss_cons (ss_set (i := 15) S.nd rfl (.inl rfl) (se_call (c_law_put_in_2_runs Xf Df (hr.mono (by decide : 40 ≤ 44))) (kp_law_put_in Df) Xf.g__law_put_in rfl (sa_cons (se_var (i := 8) rfl (.inl rfl)) (sa_cons (se_var (i := 9) rfl (.inr (.inl rfl))) sa_nil))))
  (sss_cons (ss_dput (u1 hr) (se_var (i := 9) rfl (.inr (.inl rfl))) se_str se_int)
  (sss_cons (ss_if (st_w (sw_or (st_ne (u64 hr) (se_repr (hr.mono (Nat.zero_le _)) rfl Xf.f_repr (sa_cons (se_fld (se_var (i := 13) rfl (.inl rfl)) Xf.a_form_Filter) sa_nil)) (se_repr (hr.mono (Nat.zero_le _)) rfl Xf.f_repr (sa_cons (se_var (i := 15) rfl (.inl rfl)) sa_nil))) (sw_or1 (st_ne (u64 hr) (se_meth0 (se_var (i := 13) rfl (.inl rfl)) Xf.c_Filter Xf.m_Filter_parameters (z_Filter_parameters_1 Xf Df) (hr.mono (by decide : 42 ≤ 44))) (se_frz (sl_lst sa_nil))))))
  (sss_one (ss_ret se_bl))
  sss_nil)
  (sss_cons (ss_set (i := 16) S.nd rfl (.inl rfl) (se_tup (sa_cons (se_call (c_law_cell_1_runs Xf Df (hr.mono (by decide : 2 ≤ 44))) (kp_law_cell Df) Xf.g__law_cell rfl (sa_cons (se_var (i := 2) rfl (.inl rfl)) sa_nil)) (sa_cons (se_call (c_law_cell_1_runs Xf Df (hr.mono (by decide : 2 ≤ 44))) (kp_law_cell Df) Xf.g__law_cell rfl (sa_cons (se_var (i := 2) rfl (.inl rfl)) sa_nil)) (sa_cons (se_call (c_law_cell_1_runs Xf Df (hr.mono (by decide : 2 ≤ 44))) (kp_law_cell Df) Xf.g__law_cell rfl (sa_cons (se_var (i := 2) rfl (.inl rfl)) sa_nil)) sa_nil)))))
  (sss_cons (ss_if (st_w (sw_or (st_ne (u64 hr) (se_repr (hr.mono (Nat.zero_le _)) rfl Xf.f_repr (sa_cons (se_icall Xf.call_Filter (z_Filter_call_2 Xf Df) (hr.mono (by decide : 44 ≤ 44)) (se_var (i := 13) rfl (.inl rfl)) (sa_cons (se_var (i := 16) rfl (.inl rfl)) sa_nil)) sa_nil)) (se_repr (hr.mono (Nat.zero_le _)) rfl Xf.f_repr (sa_cons (se_call (c_law_takes_2_runs Xf Df (hr.mono (by decide : 40 ≤ 44))) (kp_law_takes Df) Xf.g__law_takes rfl (sa_cons (se_var (i := 15) rfl (.inl rfl)) (sa_cons (se_var (i := 16) rfl (.inl rfl)) sa_nil))) sa_nil))) (sw_or1 (st_ne (u64 hr) (se_eqO Xf.ins Xf.o_Filter___eq__ (z_Filter_eq_2 Xf Df) (hr.mono (by decide : 1 ≤ 44)) (se_var (i := 13) rfl (.inl rfl)) (se_var (i := 7) rfl (.inl rfl))) (se_eq (u64 hr) (se_var (i := 5) rfl (.inl rfl)) (se_frz (sl_lst sa_nil)))))))
  (sss_one (ss_ret se_bl))
  sss_nil)
  (sss_one (ss_if (st_not (st_eq (u64 hr) (se_fld (se_meth (se_methK0 (se_var (i := 7) rfl (.inl rfl)) Xf.c_Filter Xf.m_Filter_bound (z_Filter_bound_1_values Xf Df) (hr.mono (by decide : 43 ≤ 44)) (sk_cons (se_dcopy rfl Xf.f_dict (sa_cons (se_var (i := 9) rfl (.inr (.inl rfl))) sa_nil)) sk_nil)) Xf.c_Filter Xf.m_Filter_bound (z_Filter_bound_2 Xf Df) (hr.mono (by decide : 43 ≤ 44)) (sa_cons se_dnew sa_nil)) Xf.a_form_Filter) (se_call (c_law_put_in_2_runs Xf Df (hr.mono (by decide : 40 ≤ 44))) (kp_law_put_in Df) Xf.g__law_put_in rfl (sa_cons (se_var (i := 8) rfl (.inl rfl)) (sa_cons (se_var (i := 9) rfl (.inr (.inl rfl))) sa_nil)))))
  (sss_one (ss_ret se_bl))
  sss_nil)))))))
  sss_nil)
  (sss_one (ss_if (st_ne (u64 hr) (se_repr (hr.mono (Nat.zero_le _)) rfl Xf.f_repr (sa_cons (se_fld (se_var (i := 7) rfl (.inl rfl)) Xf.a_form_Filter) sa_nil)) (se_repr (hr.mono (Nat.zero_le _)) rfl Xf.f_repr (sa_cons (se_var (i := 8) rfl (.inl rfl)) sa_nil)))
  (sss_one (ss_ret se_bl))
  sss_nil))))))))))))))))))
  (sss_cons (ss_set (i := 18) S.nd rfl (.inl rfl) (se_binC Xf.b_Filter___and__ (z_Filter_and_2 Xf Df) (hr.mono (by decide : 42 ≤ 44)) (se_eqO Xf.ins Xf.o_Column___eq__ (z_Column_eq_2 Xf Df) (hr.mono (by decide : 4 ≤ 44)) (se_call (n_Column_init_2_runs Xf Df (hr.mono (by decide : 3 ≤ 44))) (Xf.n_Column).kp Xf.g_Column rfl (sa_cons se_str sa_nil)) se_str) (se_inv (se_eqO Xf.ins Xf.o_Column___eq__ (z_Column_eq_2 Xf Df) (hr.mono (by decide : 4 ≤ 44)) (se_call (n_Column_init_2_runs Xf Df (hr.mono (by decide : 3 ≤ 44))) (Xf.n_Column).kp Xf.g_Column rfl (sa_cons se_str sa_nil)) se_int) Xf.o_Filter___invert__ (z_Filter_invert_1 Xf Df) (hr.mono (by decide : 3 ≤ 44)))))
  (sss_one (ss_ret (se_and (se_eqO Xf.ins Xf.o_Filter___eq__ (z_Filter_eq_2 Xf Df) (hr.mono (by decide : 1 ≤ 44)) (se_meth (se_var (i := 18) rfl (.inl rfl)) Xf.c_Filter Xf.m_Filter_bound (z_Filter_bound_2 Xf Df) (hr.mono (by decide : 43 ≤ 44)) (sa_cons (se_disp (sps_cons se_str se_int sps_nil) rfl rfl (by intro h; cases h) (by show 1 ≤ 15; decide)) sa_nil)) (se_binC Xf.b_Filter___and__ (z_Filter_and_2 Xf Df) (hr.mono (by decide : 42 ≤ 44)) (se_eqO Xf.ins Xf.o_Column___eq__ (z_Column_eq_2 Xf Df) (hr.mono (by decide : 4 ≤ 44)) (se_call (n_Column_init_2_runs Xf Df (hr.mono (by decide : 3 ≤ 44))) (Xf.n_Column).kp Xf.g_Column rfl (sa_cons se_str sa_nil)) se_int) (se_neO Xf.ins Xf.o_Column___ne__ (z_Column_ne_2 Xf Df) (hr.mono (by decide : 4 ≤ 44)) (se_call (n_Column_init_2_runs Xf Df (hr.mono (by decide : 3 ≤ 44))) (Xf.n_Column).kp Xf.g_Column rfl (sa_cons se_str sa_nil)) se_int))) (se_one (se_eq (u64 hr) (se_meth0 (se_var (i := 18) rfl (.inl rfl)) Xf.c_Filter Xf.m_Filter_parameters (z_Filter_parameters_1 Xf Df) (hr.mono (by decide : 42 ≤ 44))) (se_frz (sl_lst (sa_cons se_str sa_nil))))))))))
abbrev G_law : FD := B_law
theorem toDs_ints : ∀ l : List Int, toDs (l.map .int) = some (l.map .int)
  | [] => rfl
  | x :: l => by
    show (match some (PyData.int x) with
      | some d => (match toDs (l.map .int) with
        | some ds => some (d :: ds)
        | none => none)
      | none => none) = _
    rw [toDs_ints l]
    rfl
theorem lay_ints : ∀ l : List Int, PyData.canLayAll0 (l.map .int) = true
  | [] => rfl
  | x :: l => by
    show (PyData.canLay0 (.int x) && PyData.canLayAll0 (l.map .int)) = true
    rw [lay_ints l]
    rfl
theorem dep_ints : ∀ l : List Int, PyData.depthAll (l.map .int) = 0
  | [] => rfl
  | x :: l => by
    show max (PyData.depth (.int x)) (PyData.depthAll (l.map .int)) = 0
    rw [dep_ints l]
    rfl
theorem shaped_ints (l : List Int) : SeqAt.shaped (.list (l.map .int)) = true := by
  unfold SeqAt.shaped
  rw [show PyData.canLay0 (.list (l.map .int)) = PyData.canLayAll0 (l.map .int) from rfl, lay_ints, show PyData.depth (.list (l.map .int)) = PyData.depthAll (l.map .int) + 1 from rfl, dep_ints]
  rfl
theorem eqF_nil {l : List Int} {m : Mem} : eqF (.lst (l.map .int)) (.lst []) m = some (.bl l.isEmpty, m) := by
  rw [eqF_obj (.inl rfl)]
  unfold eqW datF
  have e1 : toDm m (.lst (l.map .int)) = some (.list (l.map .int)) := by
    show (match toDs (l.map .int) with
      | some ds => some (PyData.list ds)
      | none => none) = _
    rw [toDs_ints]
  have e2 : toDm m (.lst []) = some (.list []) := rfl
  rw [e1, e2]
  simp only [shaped_ints, show SeqAt.shaped (.list []) = true from rfl, Bool.and_self, if_true]
  cases l <;> rfl
theorem draw_ok {m : Mem} {n : Nat} {c b k : Int} {nums : List Int} {many : Int} (h : m[n]? = some (.lst [.int c, .int b, .int k, .lst (nums.map .int)])) (h1 : 0 < many) (h2 : many < 1073741824) :
   ∃ d c' b' k', 0 ≤ d ∧ d < many ∧ B_law_draw [.obj n, .int many] m = some (.ok (.int d), m.set n (.lst [.int c', .int b', .int k', .lst (nums.map .int)])) := by
  have hn := getlt h
  have i0 : ∀ {z : Int} {c b k : Vl}, L2.atI [.int z, c, b, k] 0 = some (.int z) := rfl
  have i1 : ∀ {z c b k : Vl}, L2.atI [z, c, b, k] 1 = some c := rfl
  have i2 : ∀ {z c b k : Vl}, L2.atI [z, c, b, k] 2 = some b := rfl
  have i3 : ∀ {z c b k : Vl}, L2.atI [z, c, b, k] 3 = some k := rfl
  by_cases hc : 0 < c
  · refine ⟨c % many, c / many, b, k, Int.emod_nonneg _ (by omega), Int.emod_lt_of_pos _ h1, ?_⟩
    simp [B_law_draw, bodyD, startZ, D_law_draw, ixA_obj h i0, hc, modI_int h1, divI_int h1 h2]
    rw [gSetI_ap (n := n) (q := 0) (j := 0) rfl rfl h rfl]
    simp
  · by_cases hz : nums = []
    · subst hz
      refine ⟨0, c, b, k, Int.le_refl _, h1, ?_⟩
      have e := eqF_nil (l := []) (m := m)
      simp only [List.map_nil] at e
      simp [B_law_draw, bodyD, startZ, D_law_draw, ixA_obj h i0, ixA_obj h i3, hc, e]
      exact (set_same (by simpa using h)).symm
    · have hl : 0 < (nums.length : Int) := by
        have := List.length_pos_iff.mpr hz
        omega
      have hg : ∃ z, nums[((k + 1) % (nums.length : Int)).toNat]? = some z := by
        refine ⟨_, List.getElem?_eq_getElem ?_⟩
        have := Int.emod_lt_of_pos (k + 1) hl
        have := Int.emod_nonneg (k + 1) (b := (nums.length : Int)) (by omega)
        omega
      obtain ⟨z, hz2⟩ := hg
      have hnn := Int.emod_nonneg (k + 1) (b := (nums.length : Int)) (by omega)
      have ha : L2.atI (nums.map Vl.int) ((k + 1) % (nums.length : Int)) = some (.int z) := atI_of hnn (by rw [List.getElem?_map, hz2]; rfl)
      refine ⟨((((b * 48271 + z % 1000003) + 30011 * (k + 1)) % 2147483629 * 39373) % 2147483647 / 128) % many, c, ((b * 48271 + z % 1000003) + 30011 * (k + 1)) % 2147483629, k + 1, Int.emod_nonneg _ (by omega), Int.emod_lt_of_pos _ h1, ?_⟩
      have hs := get_set (y := Cell.lst [.int c, .int b, .int (k + 1), .lst (nums.map .int)]) h
      have g1 : ∀ (env : Ev), gSetI (dVar 0) (dC (.int 2)) (.int (k + 1)) (some (.obj n) :: env) m = some (some (.obj n) :: env, m.set n (.lst [.int c, .int b, .int (k + 1), .lst (nums.map .int)])) := fun env => gSetI_ap (n := n) (q := 2) (j := 2) rfl rfl h rfl
      have g2 : ∀ (env : Ev) (v : Vl), gSetI (dVar 0) (dC (.int 1)) v (some (.obj n) :: env) (m.set n (.lst [.int c, .int b, .int (k + 1), .lst (nums.map .int)])) = some (some (.obj n) :: env, m.set n (.lst [.int c, v, .int (k + 1), .lst (nums.map .int)])) := fun env v => by
        rw [gSetI_ap (n := n) (q := 1) (j := 1) rfl rfl hs rfl]
        simp
      have hs2 : ∀ v, (m.set n (Cell.lst [.int c, v, .int (k + 1), .lst (nums.map .int)]))[n]? = some (.lst [.int c, v, .int (k + 1), .lst (nums.map .int)]) := fun v => get_set h
      simp [B_law_draw, bodyD, startZ, D_law_draw, ixA_obj h i0, ixA_obj h i2, ixA_obj h i3, hc, eqF_nil, hz, g1, ixA_obj hs i2, ixA_obj hs i3, ixA_obj hs i1, lenF_lst, modI_int hl, ixA_lst ha, mulA_int (mulC_r (n := 48271) (by decide) (by decide)), mulA_int (mulC_l (k := 30011) (by decide) (by decide)), mulA_int (mulC_r (n := 39373) (by decide) (by decide)), modI_int (n := 1000003) (by decide), modI_int (n := 2147483629) (by decide), modI_int (n := 2147483647) (by decide), divI_int (n := 128) (by decide) (by decide), modI_int h1, g2, ixA_obj (hs2 _) i1]
theorem start_B (ns : List Int) (hns : ns.length ≤ 63) (t : Int) (ht : 0 ≤ t) : wpO (B_law_start [.frl (ns.map .int), .int t] []) fun r m => r = .ok (.obj 0) ∧ ∃ c b : Int, m = [.lst [.int c, .int b, .int 0, .lst (ns.map .int)]] := by
  have hsl : ∀ m, slD (.frl (ns.map Vl.int)) none (some 63) m = some (.lst (ns.map Vl.int), m) := fun m => by
    show some (Vl.lst (cutZ (ns.map Vl.int) none (some ((63 : Nat) : Int))), m) = _
    rw [cut_all (by simpa using hns)]
  have hlc : ∀ (a b c : Option Vl) (env : Ev) (m : Mem), lcZ (gcVar 3) dYes (dB intFn (dCons (dVar 3) fun _ m => some (.ok [], m))) (a :: b :: c :: none :: env) (ns.map Vl.int) m = some (ns.map Vl.int, m) := fun a b c env m => by
    rw [lcZ_map (f := id) fun x hx => ?_]
    · simp
    · obtain ⟨i, _, rfl⟩ := List.mem_map.mp hx
      exact ⟨_, rfl, by simp⟩
  have hsz : ns.length ≤ sizeLine := Nat.le_trans hns (by decide)
  have hp : powI (.int 10) (.int 18) [] = some (.int (10 ^ 18), []) := rfl
  have ha : t < ns.length → ∃ z : Int, L2.atI (ns.map Vl.int) t = some (.int z) := fun h => by
    have hi : t.toNat < ns.length := by omega
    exact ⟨ns[t.toNat], atI_of ht (by rw [List.getElem?_map, List.getElem?_eq_getElem hi]; rfl)⟩
  refine wp_body ?_
  have key : ∀ (c b0 : Int), wpO
    (thenS (forL (gTupD (gsCons (gVar 6) (gsCons (gVar 3) gsNil)))
            (dAsg 5 (d2 modI (dB intFn (dCons (d2 addA (d2 addA (d2 mulA (dVar 5) (dC (.int 69621))) (d2 modI (dB intFn (dCons (dVar 3) (fun _ m => some (.ok [], m)))) (dC (.int 2147483587)))) (d2 mulA (dC (.int 17)) (dVar 6))) (fun _ m => some (.ok [], m)))) (dC (.int 2147483629)))) (enumZ (ns.map Vl.int))
            [some (.frl (ns.map .int)), some (.int t), some (.lst (ns.map .int)), none, some (.int c), some (.int b0), none] [])
      (dRet (dNew (dLst (dCons (dIf (b2 geI (dVar 4) (d2 powI (dC (.int 10)) (dC (.int 18)))) (dVar 4) (dC (.int 0))) (dCons (dVar 5) (dCons (dC (.int 0)) (dCons (dVar 2) (fun _ m => some (.ok [], m))))))))))
    (fun f m' => match f with
      | .rt v => v = .obj 0 ∧ ∃ c b : Int, m' = [.lst [.int c, .int b, .int 0, .lst (ns.map .int)]]
      | _ => False) := fun c b0 => by
    refine wp_for (P := fun env m => m = [] ∧ ∃ (b : Int) (e3 e6 : Option Vl), env = [some (.frl (ns.map .int)), some (.int t), some (.lst (ns.map .int)), e3, some (.int c), some (.int b), e6]) ⟨rfl, _, _, _, rfl⟩ ?_ ?_
    · rintro x hx env m ⟨rfl, b, e3, e6, rfl⟩
      obtain ⟨i, hi⟩ := List.mem_iff_getElem?.mp hx
      obtain ⟨y, hy, rfl⟩ := enumZ_get hi
      obtain ⟨z, _, rfl⟩ := List.mem_map.mp (List.mem_of_getElem? hy)
      refine ⟨_, _, rfl, ?_⟩
      simp [mulA_int (mulC_r (n := 69621) (by decide) (by decide)), mulA_int (mulC_l (k := 17) (by decide) (by decide)), modI_int (n := 2147483587) (by decide), modI_int (n := 2147483629) (by decide)]
    · rintro env m ⟨rfl, b, e3, e6, rfl⟩
      by_cases h : (10 : Int) ^ 18 ≤ c
      · simp [hp, show (1000000000000000000 : Int) ≤ c from h]
      · simp [hp, show ¬ (1000000000000000000 : Int) ≤ c from h]
  by_cases h : t < ns.length
  · obtain ⟨z, hz⟩ := ha h
    simp [startZ, D_law_start, hsl, hlc, hsz, wipeE, lenF_lst, h, ixA_lst hz, mulA_int (mulC_l (k := 5003) (by decide) (by decide))]
    exact wpO_mono (key _ _) fun f m h => by cases f <;> exact h
  · simp [startZ, D_law_start, hsl, hlc, hsz, wipeE, lenF_lst, h, mulA_int (mulC_l (k := 5003) (by decide) (by decide))]
    exact wpO_mono (key _ _) fun f m h => by cases f <;> exact h
theorem start_ok (ns : List Int) (hns : ns.length ≤ 63) (t : Int) (ht : 0 ≤ t) (m : Mem) : ∃ c b : Int, h_law_start_2 [.frl (ns.map .int), .int t] [] m = some (.ok (.obj m.length), m ++ [.lst [.int c, .int b, .int 0, .lst (ns.map .int)]]) := by
  obtain ⟨r, m1, h1, rfl, c, b, rfl⟩ := wpO_iff.mp (start_B ns hns t ht)
  refine ⟨c, b, fresh_top h1 ?_ rfl ?_⟩
  · show (cloL 0 (ns.map .int) && _) = true
    rw [cloL_ints]
    rfl
  · intro z hz
    rcases List.mem_cons.mp hz with rfl | hz
    · rfl
    rcases List.mem_cons.mp hz with rfl | hz
    · rfl
    rcases List.mem_cons.mp hz with rfl | hz
    · rfl
    rcases List.mem_cons.mp hz with rfl | hz
    · exact cnv_ints ns
    · cases hz
/-! values and names -/
structure Nm (s : Str) : Prop where
  l0 : 1 ≤ s.length
  l1 : s.length ≤ 8
  low : ∀ c ∈ s.cps.toList, 97 ≤ c ∧ c ≤ 122
inductive Good : Vl → Prop
  | int (i : Int) (h0 : 0 ≤ i) (h1 : i ≤ 999) : Good (.int i)
  | str (s : Str) (h : Nm s) : Good (.str s)
theorem value_int (i : Int) (m : Mem) : c_is_value_1 [.int i] [] m = some (.ok (.bl (decide (0 ≤ i) && decide (i ≤ 999))), m) := by
  show B_is_value [.int i] m = _
  have h1 : isiF csZ (kitT kitL) [.int i, .ty "int"] m = some (.bl true, m) := rfl
  have h2 : isiF csZ (kitT kitL) [.int i, .ty "bool"] m = some (.bl false, m) := rfl
  by_cases h : 0 ≤ i <;> simp [B_is_value, bodyD, startZ, D_is_value, h1, h2, h]
theorem value_str (s : Str) (m : Mem) : c_is_value_1 [.str s] [] m = some (.ok (.bl false), m) := by
  show B_is_value [.str s] m = _
  have h1 : isiF csZ (kitT kitL) [.str s, .ty "int"] m = some (.bl false, m) := rfl
  simp [B_is_value, bodyD, startZ, D_is_value, h1]
theorem name_int (i : Int) (m : Mem) : c_is_name_1 [.int i] [] m = some (.ok (.bl false), m) := by
  show B_is_name [.int i] m = _
  have h1 : isiF csZ (kitT kitL) [.int i, .ty "str"] m = some (.bl false, m) := rfl
  simp [B_is_name, bodyD, startZ, D_is_name, h1]
def lowB (c : Nat) : Bool := !(Builtin.Str.occurrences ("abcdefghijklmnopqrstuvwxyz" : Str) ⟨#[c]⟩ 0 ("abcdefghijklmnopqrstuvwxyz" : Str).length 1).isEmpty
theorem low_in : ∀ c, c < 26 → lowB (97 + c) = true := by decide +kernel
theorem in_low (c : Nat) (m : Mem) : inA false (.str ⟨#[c]⟩) (.str "abcdefghijklmnopqrstuvwxyz") m = some (.bl (lowB c), m) := rfl
theorem blsL_map (f : Vl → Bool) : ∀ ys : List Vl, blsL (ys.map fun y => .bl (f y)) = some (ys.map f)
  | [] => rfl
  | y :: ys => by
    show (match blsL (ys.map fun y => .bl (f y)) with
      | some bs => some (f y :: bs)
      | none => none) = _
    rw [blsL_map f ys]
    rfl
theorem name_str (s : Str) (hz : s.length ≤ 1000) (m : Mem) : c_is_name_1 [.str s] [] m = some (.ok (.bl ((decide (1 ≤ s.length) && decide (s.length ≤ 8)) && s.cps.toList.all lowB)), m) := by
  show B_is_name [.str s] m = _
  have h1 : isiF csZ (kitT kitL) [.str s, .ty "str"] m = some (.bl true, m) := rfl
  have hl : lenF [.str s] m = some (.int s.length, m) := by
    show (if s.length ≤ sizeLine then _ else none) = _
    rw [if_pos (le_size hz)]
  have hlc : ∀ (e0 e1 : Option Vl), lcZ (gcVar 1) dYes (d2 (inA false) (dVar 1) (dC (.str "abcdefghijklmnopqrstuvwxyz"))) [e0, e1] (chrs s) m = some ((chrs s).map fun x => .bl (match x with
      | .str z => (match z.cps.toList with
        | [c] => lowB c
        | _ => false)
      | _ => false), m) := fun e0 e1 => lcZ_map fun x hx => by
    unfold chrs at hx
    obtain ⟨c, _, rfl⟩ := List.mem_map.mp hx
    exact ⟨_, rfl, by simp [in_low]⟩
  have hq : quant (fun l => l.all id) [.lst ((chrs s).map fun x => .bl (match x with
      | .str z => (match z.cps.toList with
        | [c] => lowB c
        | _ => false)
      | _ => false))] m = some (.bl (s.cps.toList.all lowB), m) := by
    unfold quant lisD seqD
    dsimp only
    rw [blsL_map]
    unfold chrs
    simp only [List.map_map, List.all_map]
    congr 2
  have hc : (chrs s).length ≤ sizeLine := by
    unfold chrs
    rw [List.length_map, Array.length_toList]
    exact le_size hz
  have c1 : decide ((1 : Int) ≤ (s.length : Int)) = decide (1 ≤ s.length) := by
    by_cases h : 1 ≤ s.length
    · rw [decide_eq_true h, decide_eq_true (by omega)]
    · rw [decide_eq_false h, decide_eq_false (by omega)]
  have c2 : decide ((s.length : Int) ≤ 8) = decide (s.length ≤ 8) := by
    by_cases h : s.length ≤ 8
    · rw [decide_eq_true h, decide_eq_true (by omega)]
    · rw [decide_eq_false h, decide_eq_false (by omega)]
  rw [show B_is_name = bodyD 2 D_is_name from rfl]
  cases q1 : decide (1 ≤ s.length) <;> cases q2 : decide (s.length ≤ 8) <;>
    simp [bodyD, startZ, D_is_name, -decide_eq_true_eq, -decide_eq_false_iff_not, h1, hl, c1, c2, q1, q2, iStrD, wipeE, hlc, hq, hc]
/-- the bag at n -/
def Bag (ns : List Int) (n : Nat) (m : Mem) : Prop := ∃ c b k : Int, m[n]? = some (.lst [.int c, .int b, .int k, .lst (ns.map .int)])
theorem Bag.set {ns : List Int} {n p : Nat} {m : Mem} (h : Bag ns n m) (hne : p ≠ n) (c : Cell) : Bag ns n (m.set p c) := by
  obtain ⟨x, y, z, h⟩ := h
  exact ⟨x, y, z, by rw [List.getElem?_set_ne hne]; exact h⟩
theorem Bag.app {ns : List Int} {n : Nat} {m : Mem} (h : Bag ns n m) (c : Mem) : Bag ns n (m ++ c) := by
  obtain ⟨x, y, z, h⟩ := h
  exact ⟨x, y, z, by rw [List.getElem?_append_left (getlt h)]; exact h⟩
theorem Bag.lt {ns : List Int} {n : Nat} {m : Mem} (h : Bag ns n m) : n < m.length := by
  obtain ⟨x, y, z, h⟩ := h
  exact getlt h
theorem draw_z {ns : List Int} {n : Nat} {m : Mem} (h : Bag ns n m) {k : Nat} (h1 : 0 < k) (h2 : k < 1000) : ∃ (d : Nat) (m' : Mem), d < k ∧ c_law_draw_2 [.obj n, .int (k : Int)] [] m = some (.ok (.int (d : Int)), m') ∧ Bag ns n m' ∧ m'.length = m.length ∧ ∀ j, j ≠ n → m'[j]? = m[j]? := by
  obtain ⟨c, b, q, h⟩ := h
  obtain ⟨d, c', b', q', h3, h4, h5⟩ := draw_ok h (many := (k : Int)) (by omega) (by omega)
  obtain ⟨d, rfl⟩ := Int.eq_ofNat_of_zero_le h3
  exact ⟨d, _, by omega, h5, ⟨c', b', q', get_set h⟩, by simp, fun j hj => by rw [List.getElem?_set_ne (Ne.symm hj)]⟩
theorem ix_v {L : List Vl} {d : Nat} {v : Vl} (h : L[d]? = some v) (m : Mem) : ixA (.lst L) (.int (d : Int)) m = some (v, m) := ixA_lst (atI_of (by omega) (by rw [Int.toNat_natCast]; exact h))
theorem pick_v {ns : List Int} {n : Nat} {m : Mem} (h : Bag ns n m) (L : List Vl) (h1 : 0 < L.length) (h2 : L.length < 1000) : ∃ (v : Vl) (m' : Mem), v ∈ L ∧ c_law_pick_2 [.obj n, .lst L] [] m = some (.ok v, m') ∧ Bag ns n m' ∧ m'.length = m.length ∧ ∀ j, j ≠ n → m'[j]? = m[j]? := by
  obtain ⟨d, m1, a, b, hb, hl, k⟩ := draw_z h h1 h2
  refine ⟨L[d], m1, List.getElem_mem a, ?_, hb, hl, k⟩
  show B_law_pick [.obj n, .lst L] m = _
  have ix := ix_v (List.getElem?_eq_getElem a) m1
  simp [B_law_pick, bodyD, startZ, D_law_pick, lenF_lst, b, ix]
theorem draw_w {ns : List Int} {n : Nat} {m : Mem} (h : Bag ns n m) : ∃ (d : Nat) (m' : Mem), d < 1000 ∧ c_law_draw_2 [.obj n, .int 1000] [] m = some (.ok (.int (d : Int)), m') ∧ Bag ns n m' ∧ m'.length = m.length ∧ ∀ j, j ≠ n → m'[j]? = m[j]? := by
  obtain ⟨c, b, q, h⟩ := h
  obtain ⟨d, c', b', q', h3, h4, h5⟩ := draw_ok h (many := 1000) (by omega) (by omega)
  obtain ⟨d, rfl⟩ := Int.eq_ofNat_of_zero_le h3
  exact ⟨d, _, by omega, h5, ⟨c', b', q', get_set h⟩, by simp, fun j hj => by rw [List.getElem?_set_ne (Ne.symm hj)]⟩
theorem cell_ok {ns : List Int} {n : Nat} {m : Mem} (h : Bag ns n m) : ∃ (i : Int) (m' : Mem), 0 ≤ i ∧ i ≤ 999 ∧ c_law_cell_1 [.obj n] [] m = some (.ok (.int i), m') ∧ Bag ns n m' ∧ m'.length = m.length ∧ ∀ j, j ≠ n → m'[j]? = m[j]? := by
  obtain ⟨d, m1, a0, b0, h1, l1, k1⟩ := draw_z h (k := 6) (by decide) (by decide)
  have c0 : c_law_draw_2 [.obj n, .int 6] [] m = some (.ok (.int (d : Int)), m1) := b0
  by_cases hd : d < 4
  · have hx : ∃ i : Int, 0 ≤ i ∧ i ≤ 999 ∧ ([.int 0, .int 1, .int 2, .int 999] : List Vl)[d]? = some (.int i) := by
      rcases (by omega : d = 0 ∨ d = 1 ∨ d = 2 ∨ d = 3) with rfl | rfl | rfl | rfl
      · exact ⟨0, by decide, by decide, rfl⟩
      · exact ⟨1, by decide, by decide, rfl⟩
      · exact ⟨2, by decide, by decide, rfl⟩
      · exact ⟨999, by decide, by decide, rfl⟩
    obtain ⟨i, i0, i1, hi⟩ := hx
    refine ⟨i, m1, i0, i1, ?_, h1, l1, k1⟩
    have ix := ix_v hi m1
    have hd' : ((d : Int) < 4) := by omega
    show B_law_cell [.obj n] m = _
    simp [B_law_cell, bodyD, startZ, D_law_cell, c0, hd', ix]
  · obtain ⟨i, m2, a1, b1, h2, l2, k2⟩ := draw_w h1
    refine ⟨(i : Int), m2, by omega, by omega, ?_, h2, l2.trans l1, fun j hj => (k2 j hj).trans (k1 j hj)⟩
    have hd' : ¬ ((d : Int) < 4) := by omega
    show B_law_cell [.obj n] m = _
    simp [B_law_cell, bodyD, startZ, D_law_cell, c0, hd', b1]
theorem len_app (x y : Str) : (x ++ y).length = x.length + y.length := by
  rw [TL.len_tl, TL.tl_append, List.length_append, ← TL.len_tl, ← TL.len_tl]
def lowD : DS := dAsg 1 (d2 addA (dVar 1) (d2 ixA (dC (.str "abcdefghijklmnopqrstuvwxyz")) (dCall 2 0 c_law_draw_2 (dCons (dVar 0) (dCons (dC (.int 26)) (fun _ m => some (.ok [], m)))) dNone)))
theorem ixS_low {d : Nat} (h : d < 26) (m : Mem) : ixA (.str "abcdefghijklmnopqrstuvwxyz") (.int (d : Int)) m = some (.str ⟨#[97 + d]⟩, m) := by
  have e : ∀ d, d < 26 → L2.atI ("abcdefghijklmnopqrstuvwxyz" : Str).cps.toList ((d : Nat) : Int) = some (97 + d) := by decide +kernel
  have hz : ("abcdefghijklmnopqrstuvwxyz" : Str).length ≤ sizeLine := le_size (by decide +kernel)
  show (match (none : Option (Vl × Mem)) with
    | some r => some r
    | none => if ("abcdefghijklmnopqrstuvwxyz" : Str).length ≤ sizeLine then (match L2.atI ("abcdefghijklmnopqrstuvwxyz" : Str).cps.toList ((d : Nat) : Int) with
      | some c => some (Vl.str ⟨#[c]⟩, m)
      | none => none) else none) = _
  rw [e d h, if_pos hz]
theorem low_step {ns : List Int} {n : Nat} {m : Mem} (h : Bag ns n m) {s : Str} (hs : s.length ≤ 100) (e2 : Option Vl) : ∃ (d : Nat) (m' : Mem), d < 26 ∧ lowD [some (.obj n), some (.str s), e2] m = some (.nx [some (.obj n), some (.str (s ++ ⟨#[97 + d]⟩)), e2], m') ∧ Bag ns n m' ∧ m'.length = m.length ∧ ∀ j, j ≠ n → m'[j]? = m[j]? := by
  obtain ⟨d, m1, a0, b0, h1, l1, k1⟩ := draw_z h (k := 26) (by decide) (by decide)
  have c0 : c_law_draw_2 [.obj n, .int 26] [] m = some (.ok (.int (d : Int)), m1) := b0
  refine ⟨d, m1, a0, ?_, h1, l1, k1⟩
  have ad : addA (.str s) (.str ⟨#[97 + d]⟩) m1 = some (.str (s ++ ⟨#[97 + d]⟩), m1) := addA_str (le_size (by show s.length + 1 ≤ 1000; omega))
  simp [lowD, c0, ixS_low a0, ad]
theorem low_loop {ns : List Int} {n : Nat} : ∀ (xs : List Vl) {m : Mem} {s : Str} (e2 : Option Vl), Bag ns n m → (∀ c ∈ s.cps.toList, 97 ≤ c ∧ c ≤ 122) → s.length + xs.length ≤ 100 → ∃ (s' : Str) (e2' : Option Vl) (m' : Mem), forL (gVar 2) lowD xs [some (.obj n), some (.str s), e2] m = some (.nx [some (.obj n), some (.str s'), e2'], m') ∧ s'.length = s.length + xs.length ∧ (∀ c ∈ s'.cps.toList, 97 ≤ c ∧ c ≤ 122) ∧ Bag ns n m' ∧ m'.length = m.length ∧ ∀ j, j ≠ n → m'[j]? = m[j]?
  | [], m, s, e2, h, hl, hz => ⟨s, e2, m, rfl, rfl, hl, h, rfl, fun _ _ => rfl⟩
  | x :: xs, m, s, e2, h, hl, hz => by
    simp only [List.length_cons] at hz
    obtain ⟨d, m1, hd, e1, h1, l1, k1⟩ := low_step h (s := s) (by omega) (some x)
    have one : (⟨#[97 + d]⟩ : Str).length = 1 := rfl
    obtain ⟨s', e2', m', f1, f2, f3, f4, f5, f6⟩ := low_loop xs (s := s ++ ⟨#[97 + d]⟩) (some x) h1 (fun c hc => by
      have hc' : c ∈ TL.tl (s ++ ⟨#[97 + d]⟩) := hc
      rw [TL.tl_append, List.mem_append] at hc'
      rcases hc' with hc' | hc'
      · exact hl c hc'
      · have : c = 97 + d := by simpa [TL.tl] using hc'
        omega) (by rw [len_app, one]; omega)
    refine ⟨s', e2', m', ?_, by rw [f2, len_app, one, List.length_cons]; omega, f3, f4, f5.trans l1, fun j hj => (f6 j hj).trans (k1 j hj)⟩
    unfold forL
    simp only [gVar_ap]
    show (match lowD [some (.obj n), some (.str s), some x] m with
      | some (.nx env2, m2) => forL (gVar 2) lowD xs env2 m2
      | some (.ct env2, m2) => forL (gVar 2) lowD xs env2 m2
      | some (.bk env2, m2) => some (.nx env2, m2)
      | r => r) = _
    rw [e1]
    exact f1
theorem rng_t (z : Int) (h0 : 0 ≤ z) (h : z < 100) : rng1 [.int z] = some (intsZ 0 z.toNat) := by
  have h1 : -(2 ^ 62) ≤ z := by omega
  have h2 : z < 2 ^ 62 := by omega
  unfold rng1
  simp only [h1, h2, decide_true, Bool.and_self, if_true]
theorem ints_len (a : Int) (n : Nat) : (intsZ a n).length = n := by
  unfold intsZ
  simp
/-! forms of filters -/
abbrev AB : List Str := ["a", "b"]
def colV (w : Str) : Vl := .ins "Column" [("name", .str w)]
def filV (f : Vl) : Vl := .ins "Filter" [("form", f)]
inductive Fo where
  | all
  | is (w : Str) (t : Vl)
  | no (f : Fo)
  | an (f g : Fo)
  | or (f g : Fo)
def Fo.v : Fo → Vl
  | .all => .tup [.str "all"]
  | .is w t => .tup [.str "is", .str w, t]
  | .no f => .tup [.str "not", f.v]
  | .an f g => .tup [.str "and", f.v, g.v]
  | .or f g => .tup [.str "or", f.v, g.v]
def Fo.n : Fo → Nat
  | .all => 1
  | .is _ _ => 1
  | .no f => f.n
  | .an f g => f.n + g.n
  | .or f g => f.n + g.n
def Fo.dp : Fo → Nat
  | .all => 1
  | .is _ _ => 1
  | .no f => f.dp + 1
  | .an f g => max f.dp g.dp + 1
  | .or f g => max f.dp g.dp + 1
def Fo.isNo : Fo → Bool
  | .no _ => true
  | _ => false
def Fo.Ok : Fo → Prop
  | .all => True
  | .is w t => w ∈ AB ∧ Good t
  | .no f => f.Ok ∧ f.isNo = false
  | .an f g => f.Ok ∧ g.Ok
  | .or f g => f.Ok ∧ g.Ok
def Fo.inv : Fo → Fo
  | .no f => f
  | f => .no f
theorem Fo.pos : ∀ f : Fo, 0 < f.n
  | .all => Nat.one_pos
  | .is _ _ => Nat.one_pos
  | .no f => f.pos
  | .an f g => Nat.add_pos_left f.pos _
  | .or f g => Nat.add_pos_left f.pos _
theorem Fo.dp_le : ∀ {f : Fo}, f.Ok → f.dp ≤ 2 * f.n ∧ (f.isNo = false → f.dp + 1 ≤ 2 * f.n)
  | .all, _ => ⟨by decide, fun _ => by decide⟩
  | .is _ _, _ => ⟨by show 1 ≤ 2 * 1; decide, fun _ => by show 1 + 1 ≤ 2 * 1; decide⟩
  | .no f, h => by
    have a := (Fo.dp_le h.1).2 h.2
    exact ⟨a, fun e => nomatch e⟩
  | .an f g, h => by
    have a := (Fo.dp_le h.1).1
    have b := (Fo.dp_le h.2).1
    have c := f.pos
    have d := g.pos
    have e : (Fo.an f g).dp + 1 ≤ 2 * (Fo.an f g).n := by
      show max f.dp g.dp + 1 + 1 ≤ 2 * (f.n + g.n)
      omega
    exact ⟨by omega, fun _ => e⟩
  | .or f g, h => by
    have a := (Fo.dp_le h.1).1
    have b := (Fo.dp_le h.2).1
    have c := f.pos
    have d := g.pos
    have e : (Fo.or f g).dp + 1 ≤ 2 * (Fo.or f g).n := by
      show max f.dp g.dp + 1 + 1 ≤ 2 * (f.n + g.n)
      omega
    exact ⟨by omega, fun _ => e⟩
theorem Fo.tup : ∀ f : Fo, ∃ xs, f.v = .tup xs
  | .all => ⟨_, rfl⟩
  | .is _ _ => ⟨_, rfl⟩
  | .no _ => ⟨_, rfl⟩
  | .an _ _ => ⟨_, rfl⟩
  | .or _ _ => ⟨_, rfl⟩
theorem Fo.flat (f : Fo) : flatL f.v = none := by
  obtain ⟨xs, h⟩ := f.tup
  rw [h]
  rfl
theorem clo_good {t : Vl} (h : Good t) (k : Nat) : clo k t = true := by cases h <;> rfl
theorem Fo.clo : ∀ {f : Fo}, f.Ok → ∀ k, Z.clo k f.v = true
  | .all, _, _ => rfl
  | .is _ t, h, k => by
    show (true && (true && (Z.clo k t && true))) = true
    rw [clo_good h.2]
    rfl
  | .no f, h, k => by
    show (true && (Z.clo k f.v && true)) = true
    rw [Fo.clo h.1]
    rfl
  | .an f g, h, k => by
    show (true && (Z.clo k f.v && (Z.clo k g.v && true))) = true
    rw [Fo.clo h.1, Fo.clo h.2]
    rfl
  | .or f g, h, k => by
    show (true && (Z.clo k f.v && (Z.clo k g.v && true))) = true
    rw [Fo.clo h.1, Fo.clo h.2]
    rfl
theorem cnv_good {t : Vl} (h : Good t) : ∀ (b fu : Nat) (m : Mem), cnv [] b m (fu + 1) t = some t := fun b fu m => by
  cases h <;> rfl
theorem cnv_tup {keep : List Nat} {b fu : Nat} {m : Mem} {xs : List Vl} (h : mapO (cnv keep b m fu) xs = some xs) : cnv keep b m (fu + 1) (.tup xs) = some (.tup xs) := by
  show (mapO (cnv keep b m fu) xs).map Vl.tup = _
  rw [h]
  rfl
theorem Fo.cnv : ∀ {f : Fo}, f.Ok → ∀ (b : Nat) (m : Mem) (fu : Nat), f.dp + 1 ≤ fu → Z.cnv [] b m fu f.v = some f.v
  | .all, _, b, m, fu + 2, _ => rfl
  | .is w t, h, b, m, fu + 2, _ => by
    refine cnv_tup ?_
    have e := cnv_good h.2 b fu m
    have e1 : ∀ s, Z.cnv [] b m (fu + 1) (.str s) = some (.str s) := fun s => rfl
    simp [mapO, e, e1]
  | .no f, h, b, m, fu + 1, hf => by
    refine cnv_tup ?_
    have e := Fo.cnv h.1 b m fu (by have : (Fo.no f).dp = f.dp + 1 := rfl; omega)
    obtain ⟨k, rfl⟩ : ∃ k, fu = k + 1 := ⟨fu - 1, by have : (Fo.no f).dp = f.dp + 1 := rfl; omega⟩
    have e1 : ∀ s, Z.cnv [] b m (k + 1) (.str s) = some (.str s) := fun s => rfl
    simp [mapO, e, e1]
  | .an f g, h, b, m, fu + 1, hf => by
    refine cnv_tup ?_
    have d : (Fo.an f g).dp = max f.dp g.dp + 1 := rfl
    have e := Fo.cnv h.1 b m fu (by omega)
    have e' := Fo.cnv h.2 b m fu (by omega)
    obtain ⟨k, rfl⟩ : ∃ k, fu = k + 1 := ⟨fu - 1, by omega⟩
    have e1 : ∀ s, Z.cnv [] b m (k + 1) (.str s) = some (.str s) := fun s => rfl
    simp [mapO, e, e', e1]
  | .or f g, h, b, m, fu + 1, hf => by
    refine cnv_tup ?_
    have d : (Fo.or f g).dp = max f.dp g.dp + 1 := rfl
    have e := Fo.cnv h.1 b m fu (by omega)
    have e' := Fo.cnv h.2 b m fu (by omega)
    obtain ⟨k, rfl⟩ : ∃ k, fu = k + 1 := ⟨fu - 1, by omega⟩
    have e1 : ∀ s, Z.cnv [] b m (k + 1) (.str s) = some (.str s) := fun s => rfl
    simp [mapO, e, e', e1]
theorem Fo.inv_ok : ∀ {f : Fo}, f.Ok → f.inv.Ok
  | .all, h => ⟨h, rfl⟩
  | .is _ _, h => ⟨h, rfl⟩
  | .no f, h => h.1
  | .an _ _, h => ⟨h, rfl⟩
  | .or _ _, h => ⟨h, rfl⟩
theorem Fo.inv_n : ∀ f : Fo, f.inv.n = f.n
  | .all => rfl
  | .is _ _ => rfl
  | .no f => rfl
  | .an _ _ => rfl
  | .or _ _ => rfl
theorem Fo.inv_no : ∀ {f : Fo}, f.Ok → f.inv.isNo = !f.isNo
  | .all, h => rfl
  | .is _ _, h => rfl
  | .no f, h => h.2
  | .an _ _, h => rfl
  | .or _ _, h => rfl
/-! parts_of -/
theorem pick1 (x : Vl) : pickL [.a 0] [x] [] [] [] = [x] := rfl
theorem parts_ok : ∀ (f : Fo) (k : Nat) (m : Mem), f.dp ≤ k → B_parts_of k [f.v] m = some (.ok (.int (f.n : Int)), m)
  | .all, k + 1, m, _ => by
    have i0 : ixA (.tup [.str "all"]) (.int 0) m = some (.str "all", m) := ixA_tup (atI_of (by decide) rfl)
    have a : inA false (.str "all") (.tup [.str "and", .str "or"]) m = some (.bl false, m) := by kernel_rfl
    have e : (("all" : Str) == "not") = false := by decide +kernel
    show bodyD 1 (D_parts_of fun xs ys => B_parts_of k (pickL [.a 0] xs [] [] ys)) [.tup [.str "all"]] m = _
    simp [bodyD, startZ, D_parts_of, i0, a, e, Fo.n]
  | .is w t, k + 1, m, _ => by
    have i0 : ixA (.tup [.str "is", .str w, t]) (.int 0) m = some (.str "is", m) := ixA_tup (atI_of (by decide) rfl)
    have a : inA false (.str "is") (.tup [.str "and", .str "or"]) m = some (.bl false, m) := by kernel_rfl
    have e : (("is" : Str) == "not") = false := by decide +kernel
    show bodyD 1 (D_parts_of fun xs ys => B_parts_of k (pickL [.a 0] xs [] [] ys)) [.tup [.str "is", .str w, t]] m = _
    simp [bodyD, startZ, D_parts_of, i0, a, e, Fo.n]
  | .no f, k + 1, m, hk => by
    have i0 : ixA (.tup [.str "not", f.v]) (.int 0) m = some (.str "not", m) := ixA_tup (atI_of (by decide) rfl)
    have i1 : ixA (.tup [.str "not", f.v]) (.int 1) m = some (f.v, m) := ixA_tup (atI_of (by decide) rfl)
    have a : inA false (.str "not") (.tup [.str "and", .str "or"]) m = some (.bl false, m) := by kernel_rfl
    have ih := parts_ok f k m (by have : (Fo.no f).dp = f.dp + 1 := rfl; omega)
    show bodyD 1 (D_parts_of fun xs ys => B_parts_of k (pickL [.a 0] xs [] [] ys)) [.tup [.str "not", f.v]] m = _
    simp [bodyD, startZ, D_parts_of, i0, i1, a, Fo.n, pick1, ih]
  | .an f g, k + 1, m, hk => by
    have i0 : ixA (.tup [.str "and", f.v, g.v]) (.int 0) m = some (.str "and", m) := ixA_tup (atI_of (by decide) rfl)
    have i1 : ixA (.tup [.str "and", f.v, g.v]) (.int 1) m = some (f.v, m) := ixA_tup (atI_of (by decide) rfl)
    have i2 : ixA (.tup [.str "and", f.v, g.v]) (.int 2) m = some (g.v, m) := ixA_tup (atI_of (by decide) rfl)
    have a : inA false (.str "and") (.tup [.str "and", .str "or"]) m = some (.bl true, m) := by kernel_rfl
    have d : (Fo.an f g).dp = max f.dp g.dp + 1 := rfl
    have ih := parts_ok f k m (by omega)
    have ih' := parts_ok g k m (by omega)
    show bodyD 1 (D_parts_of fun xs ys => B_parts_of k (pickL [.a 0] xs [] [] ys)) [.tup [.str "and", f.v, g.v]] m = _
    simp [bodyD, startZ, D_parts_of, i0, i1, i2, a, Fo.n, pick1, ih, ih']
  | .or f g, k + 1, m, hk => by
    have i0 : ixA (.tup [.str "or", f.v, g.v]) (.int 0) m = some (.str "or", m) := ixA_tup (atI_of (by decide) rfl)
    have i1 : ixA (.tup [.str "or", f.v, g.v]) (.int 1) m = some (f.v, m) := ixA_tup (atI_of (by decide) rfl)
    have i2 : ixA (.tup [.str "or", f.v, g.v]) (.int 2) m = some (g.v, m) := ixA_tup (atI_of (by decide) rfl)
    have a : inA false (.str "or") (.tup [.str "and", .str "or"]) m = some (.bl true, m) := by kernel_rfl
    have d : (Fo.or f g).dp = max f.dp g.dp + 1 := rfl
    have ih := parts_ok f k m (by omega)
    have ih' := parts_ok g k m (by omega)
    show bodyD 1 (D_parts_of fun xs ys => B_parts_of k (pickL [.a 0] xs [] [] ys)) [.tup [.str "or", f.v, g.v]] m = _
    simp [bodyD, startZ, D_parts_of, i0, i1, i2, a, Fo.n, pick1, ih, ih']
/-! filters and columns: how they are made -/
theorem filter_make {f : Fo} (h : f.Ok) (hn : f.n ≤ 8) (m : Mem) : n_Filter_init_2 [f.v] [] m = some (.ok (filV f.v), m) := by
  have e : m_Filter_init_2 [f.v] [] [] = some (.ok (.obj 0), [.ins "Filter" [("form", f.v)]]) := rfl
  refine fresh_val e (by show (clo 0 f.v && true) = true; rw [Fo.clo h]; rfl) rfl ?_
  show (mapP (cnv [] m.length [Cell.ins "Filter" [("form", f.v)]] 29) [(("form" : Str), f.v)]).map (Vl.ins "Filter") = _
  have := Fo.cnv h m.length [Cell.ins "Filter" [("form", f.v)]] 29 (by have := (Fo.dp_le h).1; omega)
  simp only [mapP, this]
  rfl
theorem column_make (w : Str) (hw : w ∈ AB) (m : Mem) : n_Column_init_2 [.str w] [] m = some (.ok (colV w), m) := by
  have e : ∀ w ∈ AB, m_Column_init_2 [.str w] [] [] = some (.ok (.obj 0), [.ins "Column" [("name", .str w)]]) := by
    simp only [List.forall_mem_cons]
    refine ⟨by kernel_rfl, by kernel_rfl, fun x hx => nomatch hx⟩
  exact fresh_val (e w hw) rfl rfl rfl
theorem everything_ok (m : Mem) : G_Filter_everything [] m = some (.ok (filV Fo.all.v), m) := by
  have h := filter_make (f := .all) trivial (by decide) m
  show bodyD 0 D_Filter_everything [] m = _
  simp [bodyD, startZ, D_Filter_everything]
  exact h
theorem good_val {t : Vl} (h : Good t) (m : Mem) : c_is_value_1 [t] [] m = some (.ok (.bl true), m) ∨ (c_is_value_1 [t] [] m = some (.ok (.bl false), m) ∧ c_is_name_1 [t] [] m = some (.ok (.bl true), m)) := by
  cases h with
  | int i h0 h1 =>
    left
    rw [value_int, decide_eq_true h0, decide_eq_true h1]
    rfl
  | str s hs =>
    right
    refine ⟨value_str s m, ?_⟩
    rw [name_str s (by have := hs.l1; omega), decide_eq_true hs.l0, decide_eq_true hs.l1]
    have : s.cps.toList.all lowB = true := List.all_eq_true.mpr fun c hc => by
      obtain ⟨h1, h2⟩ := hs.low c hc
      have := low_in (c - 97) (by omega)
      rwa [show 97 + (c - 97) = c by omega] at this
    rw [this]
    rfl
theorem compared_ok {w : Str} (hw : w ∈ AB) {t : Vl} (h : Good t) (m : Mem) : G_Column_compared [colV w, t] m = some (.ok (filV (Fo.is w t).v), m) := by
  have f1 : ∀ (e : Ev), dFld ["Column"] "name" (dVar 0) (some (colV w) :: e) m = some (.ok (.str w), m) := fun e => rfl
  have hm := filter_make (f := .is w t) ⟨hw, h⟩ (show 1 ≤ 8 by decide) m
  show B_Column_compared [colV w, t] m = _
  unfold Fo.v at hm ⊢
  rcases good_val h m with h1 | ⟨h1, h2⟩
  · simp [B_Column_compared, bodyD, startZ, D_Column_compared, -dFld_ap, f1, h1, hm]
  · simp [B_Column_compared, bodyD, startZ, D_Column_compared, -dFld_ap, f1, h1, h2, hm]
theorem insD_col (w : Str) (m : Mem) : insD m (colV w) = some (("Column" : Str), ([("name", Vl.str w)] : List (Str × Vl))) := rfl
theorem insD_fil (f : Vl) (m : Mem) : insD m (filV f) = some (("Filter" : Str), ([("form", f)] : List (Str × Vl))) := rfl
theorem eq_meth (w : Str) (t : Vl) (m : Mem) : dMeth "Column" "compared" 1 0 (fun xs ys => pickL [.a 0, .a 1] xs [] [] ys) G_Column_compared (dVar 0) (dCons (dVar 1) (fun _ m => some (.ok [], m))) dNone [some (colV w), some t] m = G_Column_compared [colV w, t] m := by
  have hc : (decide (("Column" : Str) = "Column") && (([("name", Vl.str w)] : List (Str × Vl)).lookup ("compared" : Str)).isNone) = true := by
    have h : (("compared" : Str) == ("name" : Str)) = false := by decide +kernel
    simp [List.lookup, h]
  unfold dMeth
  simp only [dVar_z, dVar_s, bindR_ok, insD_col, hc, if_true, dCons_ap, dNone_ap, List.length_cons, List.length_nil, and_self]
  rfl
theorem invert_ok {f : Fo} (h : f.Ok) (hn : f.n ≤ 8) (m : Mem) : G_Filter_invert [filV f.v] m = some (.ok (filV f.inv.v), m) := by
  have f1 : ∀ (e : Ev), dFld ["Filter"] "form" (dVar 0) (some (filV f.v) :: e) m = some (.ok f.v, m) := fun e => rfl
  have hm := filter_make (Fo.inv_ok h) (by rw [Fo.inv_n]; exact hn) m
  show B_Filter_invert [filV f.v] m = _
  cases f with
  | all =>
    have i0 : ixA (.tup [.str "all"]) (.int 0) m = some (.str "all", m) := ixA_tup (atI_of (by decide) rfl)
    have e : (("all" : Str) == "not") = false := by decide +kernel
    simp only [Fo.inv, Fo.v] at hm f1 ⊢
    simp [B_Filter_invert, bodyD, startZ, D_Filter_invert, -dFld_ap, f1, i0, e, hm]
  | is w t =>
    have i0 : ixA (.tup [.str "is", .str w, t]) (.int 0) m = some (.str "is", m) := ixA_tup (atI_of (by decide) rfl)
    have e : (("is" : Str) == "not") = false := by decide +kernel
    simp only [Fo.inv, Fo.v] at hm f1 ⊢
    simp [B_Filter_invert, bodyD, startZ, D_Filter_invert, -dFld_ap, f1, i0, e, hm]
  | no g =>
    have i0 : ixA (.tup [.str "not", g.v]) (.int 0) m = some (.str "not", m) := ixA_tup (atI_of (by decide) rfl)
    have i1 : ixA (.tup [.str "not", g.v]) (.int 1) m = some (g.v, m) := ixA_tup (atI_of (by decide) rfl)
    simp only [Fo.inv, Fo.v] at hm f1 ⊢
    simp [B_Filter_invert, bodyD, startZ, D_Filter_invert, -dFld_ap, f1, i0, i1, hm]
  | an g k =>
    have i0 : ixA (.tup [.str "and", g.v, k.v]) (.int 0) m = some (.str "and", m) := ixA_tup (atI_of (by decide) rfl)
    have e : (("and" : Str) == "not") = false := by decide +kernel
    simp only [Fo.inv, Fo.v] at hm f1 ⊢
    simp [B_Filter_invert, bodyD, startZ, D_Filter_invert, -dFld_ap, f1, i0, e, hm]
  | or g k =>
    have i0 : ixA (.tup [.str "or", g.v, k.v]) (.int 0) m = some (.str "or", m) := ixA_tup (atI_of (by decide) rfl)
    have e : (("or" : Str) == "not") = false := by decide +kernel
    simp only [Fo.inv, Fo.v] at hm f1 ⊢
    simp [B_Filter_invert, bodyD, startZ, D_Filter_invert, -dFld_ap, f1, i0, e, hm]
section
variable {w : Str} {t : Vl} {da db de : DE} {env : Ev} {m : Mem} {f g : Fo}
theorem inv_law (h : f.Ok) (hn : f.n ≤ 8) (hd : de env m = some (.ok (filV f.v), m)) : dInv "Filter" (fun xs ys => pickL [.a 0] xs [] [] ys) G_Filter_invert de env m = some (.ok (filV f.inv.v), m) := by
  rw [dInv_ap, hd, bindR_ok]
  simp only [insD_fil, if_true]
  exact invert_ok h hn m
theorem ty_good (h : Good t) (m : Mem) : ∃ u, tyD m t = some u ∧ (tsZ.contains u && tdOk csZ u) = true := by
  cases h with
  | int i _ _ => exact ⟨.b "int", rfl, by decide +kernel⟩
  | str s _ => exact ⟨.b "str", rfl, by decide +kernel⟩
theorem cmp_col {g : FD} {r : R Vl × Mem} (h1 : da env m = some (.ok (colV w), m)) (h2 : db env m = some (.ok t, m)) (ht : ∃ u, tyD m t = some u ∧ (tsZ.contains u && tdOk csZ u) = true) (hg : g [colV w, t] m = some r) : dCmpO "Column" csZ tsZ (fun xs ys => pickL [.a 0, .a 1] xs [] [] ys) g da db env m = some r := by
  obtain ⟨u, h3, h4⟩ := ht
  unfold dCmpO
  simp only [h1, h2, bindR_ok, insD_col, h3]
  rw [if_pos (by rw [h4]; simp)]
  exact hg
theorem cmp_fil {v v' : Vl} {g : FD} {r : R Vl × Mem} (h1 : da env m = some (.ok (filV v), m)) (h2 : db env m = some (.ok (filV v'), m)) (hg : g [filV v, filV v'] m = some r) : dCmpO "Filter" csZ tsZ (fun xs ys => pickL [.a 0, .a 1] xs [] [] ys) g da db env m = some r := by
  have h3 : tyD m (filV v') = some (.c "Filter") := rfl
  unfold dCmpO
  have hc : (decide (("Filter" : Str) = "Filter") && (tsZ.contains (.c "Filter") && tdOk csZ (.c "Filter"))) = true := by decide +kernel
  simp only [h1, h2, bindR_ok, insD_fil, h3, hc, if_true]
  exact hg
theorem col_eq (hw : w ∈ AB) (h : Good t) : G_Column_eq [colV w, t] m = some (.ok (filV (Fo.is w t).v), m) := by
  show bodyD 2 D_Column_eq [colV w, t] m = _
  have e := eq_meth w t m
  rw [compared_ok hw h] at e
  simp only [bodyD, startZ, D_Column_eq, dRet_ap, List.map_cons, List.map_nil, List.length_cons, List.length_nil, Nat.sub_self, List.replicate_zero, List.append_nil]
  rw [e]
  rfl
theorem col_ne (hw : w ∈ AB) (h : Good t) : G_Column_ne [colV w, t] m = some (.ok (filV (Fo.no (.is w t)).v), m) := by
  show bodyD 2 D_Column_ne [colV w, t] m = _
  have e := eq_meth w t m
  rw [compared_ok hw h] at e
  have q := inv_law (f := .is w t) (de := dMeth "Column" "compared" 1 0 (fun xs ys => pickL [.a 0, .a 1] xs [] [] ys) G_Column_compared (dVar 0) (dCons (dVar 1) (fun _ m => some (.ok [], m))) dNone) ⟨hw, h⟩ (show 1 ≤ 8 by decide) e
  simp only [bodyD, startZ, D_Column_ne, dRet_ap, List.map_cons, List.map_nil, List.length_cons, List.length_nil, Nat.sub_self, List.replicate_zero, List.append_nil]
  rw [q]
  rfl
/-! joined -/
theorem joined_ok (wd : Str) (F : Fo) (hv : F.v = .tup [.str wd, f.v, g.v]) (hF : F.Ok) (hf : f.Ok) (hg : g.Ok) (hn : F.n = f.n + g.n) (h8 : f.n + g.n ≤ 8) : G_Filter_joined [filV f.v, .str wd, filV g.v] m = some (.ok (filV F.v), m) := by
  have f1 : ∀ (e : Ev), dFld ["Filter"] "form" (dVar 0) (some (filV f.v) :: e) m = some (.ok f.v, m) := fun e => rfl
  have f2 : ∀ x y (e : Ev), dFld ["Filter"] "form" (dVar 2) (x :: y :: some (filV g.v) :: e) m = some (.ok g.v, m) := fun x y e => rfl
  have hi : isiF csZ (kitT kitL) [filV g.v, .glo "Filter"] m = some (.bl true, m) := rfl
  have p1 : c_parts_of_1 [f.v] [] m = some (.ok (.int (f.n : Int)), m) := parts_ok f 40 m (by have := (Fo.dp_le hf).1; omega)
  have p2 : c_parts_of_1 [g.v] [] m = some (.ok (.int (g.n : Int)), m) := parts_ok g 40 m (by have := (Fo.dp_le hg).1; omega)
  have hm := filter_make hF (by omega) m
  have hc : ¬ ((8 : Int) < (f.n : Int) + (g.n : Int)) := by omega
  rw [hv] at hm ⊢
  show B_Filter_joined [filV f.v, .str wd, filV g.v] m = _
  simp [B_Filter_joined, bodyD, startZ, D_Filter_joined, -dFld_ap, f1, f2, hi, p1, p2, hm, hc]
theorem joined_many (wd : Str) (hf : f.Ok) (hg : g.Ok) (hf8 : f.n ≤ 8) (hg8 : g.n ≤ 8) (h8 : ¬ f.n + g.n ≤ 8) : G_Filter_joined [filV f.v, .str wd, filV g.v] m = some (.ex "TooMany" [("limit", .int 8)], m) := by
  have f1 : ∀ (e : Ev), dFld ["Filter"] "form" (dVar 0) (some (filV f.v) :: e) m = some (.ok f.v, m) := fun e => rfl
  have f2 : ∀ x y (e : Ev), dFld ["Filter"] "form" (dVar 2) (x :: y :: some (filV g.v) :: e) m = some (.ok g.v, m) := fun x y e => rfl
  have hi : isiF csZ (kitT kitL) [filV g.v, .glo "Filter"] m = some (.bl true, m) := rfl
  have p1 : c_parts_of_1 [f.v] [] m = some (.ok (.int (f.n : Int)), m) := parts_ok f 40 m (by have := (Fo.dp_le hf).1; omega)
  have p2 : c_parts_of_1 [g.v] [] m = some (.ok (.int (g.n : Int)), m) := parts_ok g 40 m (by have := (Fo.dp_le hg).1; omega)
  have hc : ((8 : Int) < (f.n : Int) + (g.n : Int)) := by omega
  show B_Filter_joined [filV f.v, .str wd, filV g.v] m = _
  simp [B_Filter_joined, bodyD, startZ, D_Filter_joined, -dFld_ap, f1, f2, hi, p1, p2, hc]
theorem joined_odd (wd : Str) (v u : Vl) (hi : isiF csZ (kitT kitL) [u, .glo "Filter"] m = some (.bl false, m)) : G_Filter_joined [filV v, .str wd, u] m = some (.ex "BadFilter" [("thing", u)], m) := by
  show B_Filter_joined [filV v, .str wd, u] m = _
  simp [B_Filter_joined, bodyD, startZ, D_Filter_joined, -dFld_ap, hi]
theorem j_meth (wd : Str) (v u : Vl) (hk : (("joined" : Str) == ("form" : Str)) = false) : dMeth "Filter" "joined" 2 0 (fun xs ys => pickL [.a 0, .a 1, .a 2] xs [] [] ys) G_Filter_joined (dVar 0) (dCons (dC (.str wd)) (dCons (dVar 1) (fun _ m => some (.ok [], m)))) dNone [some (filV v), some u] m = G_Filter_joined [filV v, .str wd, u] m := by
  have hc : (decide (("Filter" : Str) = "Filter") && (([("form", v)] : List (Str × Vl)).lookup ("joined" : Str)).isNone) = true := by
    simp [List.lookup, hk]
  unfold dMeth
  simp only [dVar_z, dVar_s, dC_ap, bindR_ok, insD_fil, hc, if_true, dCons_ap, dNone_ap, List.length_cons, List.length_nil, and_self]
  rfl
/-- what & gives is what joined gives -/
theorem and_is (v u : Vl) {r : R Vl × Mem} (h : G_Filter_joined [filV v, .str "and", u] m = some r) : G_Filter_and [filV v, u] m = some r := by
  have e := j_meth (m := m) "and" v u (by decide +kernel)
  rw [h] at e
  obtain ⟨r, m'⟩ := r
  show bodyD 2 D_Filter_and [filV v, u] m = _
  simp only [bodyD, startZ, D_Filter_and, dRet_ap, List.map_cons, List.map_nil, List.length_cons, List.length_nil, Nat.sub_self, List.replicate_zero, List.append_nil]
  rw [e]
  cases r <;> rfl
theorem or_is (v u : Vl) {r : R Vl × Mem} (h : G_Filter_joined [filV v, .str "or", u] m = some r) : G_Filter_or [filV v, u] m = some r := by
  have e := j_meth (m := m) "or" v u (by decide +kernel)
  rw [h] at e
  obtain ⟨r, m'⟩ := r
  show bodyD 2 D_Filter_or [filV v, u] m = _
  simp only [bodyD, startZ, D_Filter_or, dRet_ap, List.map_cons, List.map_nil, List.length_cons, List.length_nil, Nat.sub_self, List.replicate_zero, List.append_nil]
  rw [e]
  cases r <;> rfl
theorem and_ok (hf : f.Ok) (hg : g.Ok) (h8 : f.n + g.n ≤ 8) : G_Filter_and [filV f.v, filV g.v] m = some (.ok (filV (Fo.an f g).v), m) := and_is _ _ (joined_ok "and" (.an f g) rfl ⟨hf, hg⟩ hf hg rfl h8)
theorem or_ok (hf : f.Ok) (hg : g.Ok) (h8 : f.n + g.n ≤ 8) : G_Filter_or [filV f.v, filV g.v] m = some (.ok (filV (Fo.or f g).v), m) := or_is _ _ (joined_ok "or" (.or f g) rfl ⟨hf, hg⟩ hf hg rfl h8)
theorem bin_fil {v v' : Vl} {gg : FD} {r : R Vl × Mem} {m1 m2 : Mem} (h1 : da env m = some (.ok (filV v), m1)) (h2 : db env m1 = some (.ok (filV v'), m2)) (hg : gg [filV v, filV v'] m2 = some r) : dBinC "Filter" (fun xs ys => pickL [.a 0, .a 1] xs [] [] ys) gg da db env m = some r := by
  unfold dBinC
  simp only [h1, h2, bindR_ok, insD_fil, decide_true, Bool.and_self, if_true]
  exact hg
end
/-- the bag goes on, the other cells stay -/
structure Fr (ns : List Int) (n : Nat) (m m' : Mem) : Prop where
  bag : Bag ns n m'
  le : m.length ≤ m'.length
  keep : ∀ j, j ≠ n → j < m.length → m'[j]? = m[j]?
theorem Fr.trans {ns : List Int} {n : Nat} {m m1 m2 : Mem} (a : Fr ns n m m1) (b : Fr ns n m1 m2) : Fr ns n m m2 :=
  ⟨b.bag, Nat.le_trans a.le b.le, fun j hj hl => (b.keep j hj (Nat.lt_of_lt_of_le hl a.le)).trans (a.keep j hj hl)⟩
theorem Fr.at {ns : List Int} {n : Nat} {m m1 : Mem} (a : Fr ns n m m1) {p : Nat} {c : Cell} (hp : m[p]? = some c) (hne : p ≠ n) : m1[p]? = some c := (a.keep p hne (getlt hp)).trans hp
theorem Fr.mk' {ns : List Int} {n : Nat} {m m' : Mem} (h : Bag ns n m') (l : m'.length = m.length) (k : ∀ j, j ≠ n → m'[j]? = m[j]?) : Fr ns n m m' := ⟨h, Nat.le_of_eq l.symm, fun j hj _ => k j hj⟩
theorem Fr.refl {ns : List Int} {n : Nat} {m : Mem} (h : Bag ns n m) : Fr ns n m m := ⟨h, Nat.le_refl _, fun _ _ _ => rfl⟩
section
variable {ns : List Int} {n : Nat} {m : Mem}
theorem draw_i (h : Bag ns n m) (k : Int) (h1 : 0 < k) (h2 : k ≤ 1000) : ∃ (z : Int) (m' : Mem), 0 ≤ z ∧ z < k ∧ c_law_draw_2 [.obj n, .int k] [] m = some (.ok (.int z), m') ∧ Fr ns n m m' := by
  obtain ⟨c, b, q, h⟩ := h
  obtain ⟨d, c', b', q', h3, h4, h5⟩ := draw_ok h (many := k) h1 (by omega)
  exact ⟨d, _, h3, h4, h5, Fr.mk' ⟨c', b', q', get_set h⟩ (by simp) fun j hj => by rw [List.getElem?_set_ne (Ne.symm hj)]⟩
theorem pick_i (h : Bag ns n m) (L : List Vl) (h1 : 0 < L.length) (h2 : L.length < 1000) : ∃ (v : Vl) (m' : Mem), v ∈ L ∧ c_law_pick_2 [.obj n, .lst L] [] m = some (.ok v, m') ∧ Fr ns n m m' := by
  obtain ⟨v, m', a, b, c, d, e⟩ := pick_v h L h1 h2
  exact ⟨v, m', a, b, Fr.mk' c d e⟩
theorem cell_i (h : Bag ns n m) : ∃ (i : Int) (m' : Mem), 0 ≤ i ∧ i ≤ 999 ∧ c_law_cell_1 [.obj n] [] m = some (.ok (.int i), m') ∧ Fr ns n m m' := by
  obtain ⟨v, m', a, b, c, d, e, f⟩ := cell_ok h
  exact ⟨v, m', a, b, c, Fr.mk' d e f⟩
end
/-! one part -/
def pr (f : Fo) : Vl := .tup [filV f.v, f.v]
theorem every_call (env : Ev) (m : Mem) : dSMeth "Filter" 0 0 (fun xs ys => pickL [] xs [] [] ys) G_Filter_everything (dC (.glo "Filter")) dNone dNone env m = some (.ok (filV Fo.all.v), m) := by
  have h := everything_ok m
  unfold dSMeth
  simp only [dC_ap, bindR_ok, if_true, dNone_ap, List.length_nil, and_self]
  exact h
section
variable {ns : List Int} {n : Nat} {m : Mem}
theorem leaf_ok (h : Bag ns n m) {Ts : List Vl} (hT : ∀ x ∈ Ts, Good x) (h1 : 0 < Ts.length) (h2 : Ts.length < 1000) : ∃ (f : Fo) (m' : Mem), f.Ok ∧ f.n = 1 ∧ c_law_leaf_2 [.obj n, .lst Ts] [] m = some (.ok (pr f), m') ∧ Fr ns n m m' := by
  obtain ⟨d, m1, d0, d1, c0, F0⟩ := draw_i h 6 (by decide) (by decide)
  obtain ⟨wv, m2, hw, c1, F1⟩ := pick_i F0.bag [.str "a", .str "b"] (by decide) (by decide)
  obtain ⟨t, m3, ht, c2, F2⟩ := pick_i F1.bag Ts h1 h2
  obtain ⟨w, hwA, rfl⟩ : ∃ w, w ∈ AB ∧ wv = .str w := by
    simp only [List.mem_cons, List.not_mem_nil, or_false] at hw
    rcases hw with rfl | rfl
    · exact ⟨"a", by decide +kernel, rfl⟩
    · exact ⟨"b", by decide +kernel, rfl⟩
  have F := (F0.trans F1).trans F2
  have ht := hT t ht
  have hcm := column_make w hwA m3
  by_cases hd : d = 0
  · refine ⟨.all, m3, trivial, rfl, ?_, F⟩
    show bodyD 5 D_law_leaf [.obj n, .lst Ts] m = _
    have ev := fun env => every_call env m3
    simp [bodyD, startZ, D_law_leaf, dPar3, c0, c1, c2, hd, -dSMeth_ap, ev, pr, Fo.v]
  · have e1 : ∀ e0 e1 e2, dCmpO "Column" csZ tsZ (fun xs ys => pickL [.a 0, .a 1] xs [] [] ys) G_Column_ne (dCall 1 0 n_Column_init_2 (dCons (dVar 3) (fun _ m => some (.ok [], m))) dNone) (dVar 4) [e0, e1, e2, some (.str w), some t] m3 = some (.ok (filV (Fo.no (.is w t)).v), m3) := fun e0 e1 e2 => cmp_col (w := w) (t := t) (by simp [hcm]) rfl (ty_good ht m3) (col_ne hwA ht)
    have e2 : ∀ e0 e1 e2, dCmpO "Column" csZ tsZ (fun xs ys => pickL [.a 0, .a 1] xs [] [] ys) G_Column_eq (dCall 1 0 n_Column_init_2 (dCons (dVar 3) (fun _ m => some (.ok [], m))) dNone) (dVar 4) [e0, e1, e2, some (.str w), some t] m3 = some (.ok (filV (Fo.is w t).v), m3) := fun e0 e1 e2 => cmp_col (w := w) (t := t) (by simp [hcm]) rfl (ty_good ht m3) (col_eq hwA ht)
    by_cases hd3 : d < 3
    · refine ⟨.no (.is w t), m3, ⟨⟨hwA, ht⟩, rfl⟩, rfl, ?_, F⟩
      show bodyD 5 D_law_leaf [.obj n, .lst Ts] m = _
      simp [bodyD, startZ, D_law_leaf, dPar3, c0, c1, c2, hd, hd3, e1, pr, Fo.v]
    · refine ⟨.is w t, m3, ⟨hwA, ht⟩, rfl, ?_, F⟩
      show bodyD 5 D_law_leaf [.obj n, .lst Ts] m = _
      simp [bodyD, startZ, D_law_leaf, dPar3, c0, c1, c2, hd, hd3, e2, pr, Fo.v]
theorem pr0 (f : Fo) (m : Mem) : ixA (pr f) (.int 0) m = some (filV f.v, m) := ixA_tup (atI_of (by decide) rfl)
theorem pr1 (f : Fo) (m : Mem) : ixA (pr f) (.int 1) m = some (f.v, m) := ixA_tup (atI_of (by decide) rfl)
/-- the word of a form -/
def Fo.wd : Fo → Str
  | .all => "all"
  | .is _ _ => "is"
  | .no _ => "not"
  | .an _ _ => "and"
  | .or _ _ => "or"
theorem ixW (f : Fo) (m : Mem) : ixA f.v (.int 0) m = some (.str f.wd, m) := by
  cases f <;> exact ixA_tup (atI_of (by decide) rfl)
theorem wd_not (f : Fo) : (f.wd == "not") = f.isNo := by
  cases f with
  | all => show (("all" : Str) == "not") = false; decide +kernel
  | is _ _ => show (("is" : Str) == "not") = false; decide +kernel
  | no _ => show (("not" : Str) == "not") = true; decide +kernel
  | an _ _ => show (("and" : Str) == "not") = false; decide +kernel
  | or _ _ => show (("or" : Str) == "not") = false; decide +kernel
theorem ixN (f : Fo) (m : Mem) : ixA (Fo.no f).v (.int 1) m = some (f.v, m) := ixA_tup (atI_of (by decide) rfl)
theorem inverted_ok {f : Fo} (h : f.Ok) (hn : f.n ≤ 8) (m : Mem) : c_law_inverted_1 [pr f] [] m = some (.ok (pr f.inv), m) := by
  have e := inv_law (f := f) (de := d2 ixA (dVar 0) (dC (.int 0))) (env := [some (pr f)]) (m := m) h hn (by simp [pr0])
  show bodyD 1 D_law_inverted [pr f] m = _
  cases hf : f.isNo with
  | true =>
    obtain ⟨g, rfl⟩ : ∃ g, f = .no g := by
      cases f with
      | no g => exact ⟨g, rfl⟩
      | all => cases hf
      | is _ _ => cases hf
      | an _ _ => cases hf
      | or _ _ => cases hf
    have w := wd_not (.no g)
    rw [hf] at w
    simp [bodyD, startZ, D_law_inverted, -dInv_ap, e, pr1, ixW, w, ixN]
    rfl
  | false =>
    have w := wd_not f
    rw [hf] at w
    have hi : f.inv = .no f := by
      cases f with
      | no g => cases hf
      | all => rfl
      | is _ _ => rfl
      | an _ _ => rfl
      | or _ _ => rfl
    rw [hi] at e ⊢
    simp [bodyD, startZ, D_law_inverted, -dInv_ap, e, pr1, ixW, w]
    rfl
/-! many parts -/
def leafE : DE := dCall 2 0 c_law_leaf_2 (dCons (dVar 0) (dCons (dVar 2) (fun _ m => some (.ok [], m)))) dNone
theorem leaves_ok {Ts : List Vl} (hT : ∀ x ∈ Ts, Good x) (h1 : 0 < Ts.length) (h2 : Ts.length < 1000) (e1 e3 e4 e5 e6 : Option Vl) : ∀ (xs : List Vl) (m : Mem), Bag ns n m → ∃ (fs : List Fo) (m' : Mem), (∀ f ∈ fs, f.Ok ∧ f.n = 1) ∧ fs.length = xs.length ∧ lcZ (gcVar 4) dYes leafE [some (.obj n), e1, some (.lst Ts), e3, e4, e5, e6] xs m = some (fs.map pr, m') ∧ Fr ns n m m'
  | [], m, h => ⟨[], m, (fun f hf => nomatch hf), rfl, rfl, Fr.refl h⟩
  | x :: xs, m, h => by
    obtain ⟨f, m1, f1, f2, f3, F1⟩ := leaf_ok h hT h1 h2
    obtain ⟨fs, m2, g1, g2, g3, F2⟩ := leaves_ok hT h1 h2 e1 e3 e4 e5 e6 xs m1 F1.bag
    refine ⟨f :: fs, m2, fun g hg => ?_, by rw [List.length_cons, List.length_cons, g2], ?_, F1.trans F2⟩
    · rcases List.mem_cons.mp hg with rfl | hg
      · exact ⟨f1, f2⟩
      · exact g1 g hg
    · have hl : leafE [some (.obj n), e1, some (.lst Ts), e3, some x, e5, e6] m = some (.ok (pr f), m1) := by
        simp [leafE, f3]
      simp [lcZ, dYes, hl, g3]
theorem sum_erase : ∀ (fs : List Fo) (i : Nat) (f : Fo), fs[i]? = some f → (fs.map Fo.n).sum = f.n + ((fs.eraseIdx i).map Fo.n).sum
  | g :: fs, 0, f, h => by
    cases h
    simp
  | g :: fs, i + 1, f, h => by
    have e := sum_erase fs i f h
    simp only [List.map_cons, List.sum_cons, List.eraseIdx_cons_succ, e]
    omega
theorem erase_map {α β : Type} (g : α → β) : ∀ (W : List α) (a : Nat), (W.map g).eraseIdx a = (W.eraseIdx a).map g
  | [], _ => rfl
  | x :: W, 0 => rfl
  | x :: W, a + 1 => by
    show g x :: (W.map g).eraseIdx a = _
    rw [erase_map g W a]
    rfl
theorem seq_i (a : Int) (l : Nat) (h0 : 0 ≤ a) (h : a < (l : Int)) : seqIndex? a l = some a.toNat := by
  unfold seqIndex?
  have h3 : ¬ (a < 0) := by omega
  simp [h3, h0, h]
theorem pop_i (L : List Vl) (a : Int) (h0 : 0 ≤ a) (h : a < (L.length : Int)) (hL : L.length < 1000) {y : Vl} (hy : L[a.toNat]? = some y) : popH L [.int a] = some (y, L.eraseIdx a.toNat) := by
  have c : (decide (-(2 ^ 63) ≤ a) && decide (a < 2 ^ 63)) = true := by
    simp only [Bool.and_eq_true, decide_eq_true_eq]
    omega
  unfold popH
  simp only [c, if_true, seq_i a L.length h0 h, hy]
theorem lstM_z {h : List Vl → List Vl → Option (Vl × List Vl)} {p : Nat} {m : Mem} {ys xs zs : List Vl} {z : Vl} (hp : m[p]? = some (.lst ys)) (e : h ys xs = some (z, zs)) : lstM h (.obj p) xs m = some (z, m.set p (.lst zs)) := by
  unfold lstM
  simp only [hp, e]
theorem app_i (L : List Vl) (y : Vl) (h : L.length < 1000) : appH L [y] = some (.non, L ++ [y]) := by
  show (if L.length < sizeLine then some (Vl.non, L ++ [y]) else none) = _
  rw [if_pos (Nat.lt_of_lt_of_le h (by decide))]
/-- a cell that is not the bag is set -/
theorem Fr.set {m1 : Mem} {p : Nat} (a : Fr ns n m m1) (hp : p ≠ n) (hl : m.length ≤ p) (c : Cell) : Fr ns n m (m1.set p c) :=
  ⟨a.bag.set hp c, by rw [List.length_set]; exact a.le, fun j hj h => by rw [List.getElem?_set_ne (by omega)]; exact a.keep j hj h⟩
/-- .. but for the cell p -/
structure Fp (ns : List Int) (n p : Nat) (m m' : Mem) : Prop where
  bag : Bag ns n m'
  le : m.length ≤ m'.length
  keep : ∀ j, j ≠ n → j ≠ p → j < m.length → m'[j]? = m[j]?
theorem Fp.trans {p : Nat} {m m1 m2 : Mem} (a : Fp ns n p m m1) (b : Fp ns n p m1 m2) : Fp ns n p m m2 :=
  ⟨b.bag, Nat.le_trans a.le b.le, fun j hj hp hl => (b.keep j hj hp (Nat.lt_of_lt_of_le hl a.le)).trans (a.keep j hj hp hl)⟩
theorem Fr.p {m m1 : Mem} (a : Fr ns n m m1) (p : Nat) : Fp ns n p m m1 := ⟨a.bag, a.le, fun j hj _ hl => a.keep j hj hl⟩
theorem Fp.set {p : Nat} {m m1 : Mem} (a : Fp ns n p m m1) (hne : p ≠ n) (c : Cell) : Fp ns n p m (m1.set p c) :=
  ⟨a.bag.set hne c, by rw [List.length_set]; exact a.le, fun j hj hp hl => by rw [List.getElem?_set_ne (Ne.symm hp)]; exact a.keep j hj hp hl⟩
/-- one is popped at a drawn place -/
theorem pop_step {p : Nat} {fs : List Fo} (hb : Bag ns n m) (hne : p ≠ n) (hp : m[p]? = some (.lst (fs.map pr))) (h0 : 0 < fs.length) (h1 : fs.length ≤ 100) (env : Ev) (v0 : dVar 0 env m = some (.ok (.obj n), m)) (v3 : ∀ m, dVar 3 env m = some (.ok (.obj p), m)) : ∃ (i : Nat) (f : Fo) (m1 : Mem), fs[i]? = some f ∧ dM "list" (lstM popH) (dVar 3) (dCons (dCall 2 0 c_law_draw_2 (dCons (dVar 0) (dCons (dB lenF (dCons (dVar 3) (fun _ m => some (.ok [], m)))) (fun _ m => some (.ok [], m)))) dNone) (fun _ m => some (.ok [], m))) env m = some (.ok (pr f), m1.set p (.lst ((fs.eraseIdx i).map pr))) ∧ Fr ns n m m1 := by
  have hl : ((fs.map pr).length : Int) = (fs.length : Int) := by rw [List.length_map]
  obtain ⟨d, m1, d0, d1, c0, F0⟩ := draw_i hb ((fs.map pr).length : Int) (by omega) (by omega)
  have hi : d.toNat < fs.length := by omega
  have hp1 := F0.at hp hne
  have hpop := pop_i (fs.map pr) d d0 d1 (by rw [List.length_map]; omega) (y := pr fs[d.toNat]) (by rw [List.getElem?_map, List.getElem?_eq_getElem hi]; rfl)
  have hm := lstM_z hp1 hpop
  rw [erase_map] at hm
  refine ⟨d.toNat, fs[d.toNat], m1, List.getElem?_eq_getElem hi, ?_, F0⟩
  simp only [dM_ap, v3, bindR_ok, tyM_obj hp, if_true, dCons_ap, dCall_ap, v0, dB_ap, lenF_obj hp, okR_s, dNone_ap, List.length_cons, List.length_nil, and_self, c0, hm]
def poolD : DS := dSeq D_law_chosen_1_0 (dSeq D_law_chosen_1_1 (dSeq D_law_chosen_1_2 D_law_chosen_1_3))
theorem pool_step {p : Nat} {fs : List Fo} (hb : Bag ns n m) (hne : p ≠ n) (hp : m[p]? = some (.lst (fs.map pr))) (hok : ∀ f ∈ fs, f.Ok) (h0 : 2 ≤ fs.length) (h1 : fs.length ≤ 100) (h8 : (fs.map Fo.n).sum ≤ 8) (e1 e2 e4 e5 e6 : Option Vl) :
    ∃ (gs : List Fo) (m1 : Mem) (f5 f6 : Option Vl), poolD [some (.obj n), e1, e2, some (.obj p), e4, e5, e6] m = some (.nx [some (.obj n), e1, e2, some (.obj p), e4, f5, f6], m1.set p (.lst (gs.map pr))) ∧ (∀ f ∈ gs, f.Ok) ∧ gs.length + 1 = fs.length ∧ (gs.map Fo.n).sum = (fs.map Fo.n).sum ∧ p < m1.length ∧ Fp ns n p m m1 := by
  have hpl := getlt hp
  obtain ⟨i, f, m1, hi, q1, F1⟩ := pop_step hb hne hp (by omega) h1 [some (.obj n), e1, e2, some (.obj p), e4, e5, e6] rfl (fun m => rfl)
  have hil := getlt hi
  have hfs1 : (fs.eraseIdx i).length + 1 = fs.length := by
    rw [List.length_eraseIdx_of_lt hil]
    omega
  have hp1 : (m1.set p (.lst ((fs.eraseIdx i).map pr)))[p]? = some (.lst ((fs.eraseIdx i).map pr)) := get_set (F1.at hp hne)
  have hb1 := F1.bag.set hne (.lst ((fs.eraseIdx i).map pr))
  obtain ⟨j, g, m2, hj, q2, F2⟩ := pop_step hb1 hne hp1 (by omega) (by omega) [some (.obj n), e1, e2, some (.obj p), e4, some (pr f), e6] rfl (fun m => rfl)
  have hjl := getlt hj
  have hp2 : (m2.set p (.lst (((fs.eraseIdx i).eraseIdx j).map pr)))[p]? = some (.lst (((fs.eraseIdx i).eraseIdx j).map pr)) := get_set (F2.at hp1 hne)
  have hb2 := F2.bag.set hne (.lst (((fs.eraseIdx i).eraseIdx j).map pr))
  obtain ⟨d3, m3, d30, d31, c3, F3⟩ := draw_i hb2 3 (by decide) (by decide)
  obtain ⟨d4, m4, d40, d41, c4, F4⟩ := draw_i F3.bag 2 (by decide) (by decide)
  have hp4 := (F3.trans F4).at hp2 hne
  have s1 := sum_erase fs i f hi
  have s2 := sum_erase (fs.eraseIdx i) j g hj
  have hf : f.Ok := hok f (List.mem_of_getElem? hi)
  have hg : g.Ok := hok g (List.mem_of_mem_eraseIdx (List.mem_of_getElem? hj))
  have hgs : ∀ x ∈ (fs.eraseIdx i).eraseIdx j, x.Ok := fun x hx => hok x (List.mem_of_mem_eraseIdx (List.mem_of_mem_eraseIdx hx))
  have hinv := inverted_ok hf (by omega) m3
  obtain ⟨f', hf', hn', hc2⟩ : ∃ f' : Fo, f'.Ok ∧ f'.n = f.n ∧ D_law_chosen_1_2 [some (.obj n), e1, e2, some (.obj p), e4, some (pr f), some (pr g)] (m2.set p (.lst (((fs.eraseIdx i).eraseIdx j).map pr))) = some (.nx [some (.obj n), e1, e2, some (.obj p), e4, some (pr f'), some (pr g)], m3) := by
    by_cases hd : d3 = 0
    · refine ⟨f.inv, Fo.inv_ok hf, Fo.inv_n f, ?_⟩
      simp [D_law_chosen_1_2, D_law_chosen_1_2_0, c3, hd, hinv]
    · refine ⟨f, hf, rfl, ?_⟩
      simp [D_law_chosen_1_2, D_law_chosen_1_2_0, c3, hd]
  have hlen2 : ((fs.eraseIdx i).eraseIdx j).length + 1 = (fs.eraseIdx i).length := by
    rw [List.length_eraseIdx_of_lt hjl]
    omega
  have htail : ∀ h : Fo, lstM appH (.obj p) [pr h] m4 = some (.non, m4.set p (.lst ((((fs.eraseIdx i).eraseIdx j) ++ [h]).map pr))) := fun h => by
    rw [lstM_z hp4 (app_i _ (pr h) (by rw [List.length_map]; omega)), List.map_append]
    rfl
  have hbn : f'.n + g.n ≤ 8 := by omega
  have ba := bin_fil (da := d2 ixA (dVar 5) (dC (.int 0))) (db := d2 ixA (dVar 6) (dC (.int 0))) (env := [some (.obj n), e1, e2, some (.obj p), e4, some (pr f'), some (pr g)]) (m := m4) (m1 := m4) (m2 := m4) (by simp [pr0]) (by simp [pr0]) (and_ok hf' hg hbn)
  have bo := bin_fil (da := d2 ixA (dVar 5) (dC (.int 0))) (db := d2 ixA (dVar 6) (dC (.int 0))) (env := [some (.obj n), e1, e2, some (.obj p), e4, some (pr f'), some (pr g)]) (m := m4) (m1 := m4) (m2 := m4) (by simp [pr0]) (by simp [pr0]) (or_ok hf' hg hbn)
  obtain ⟨h, hh, hhn, hc3⟩ : ∃ h : Fo, h.Ok ∧ h.n = f'.n + g.n ∧ D_law_chosen_1_3 [some (.obj n), e1, e2, some (.obj p), e4, some (pr f'), some (pr g)] m3 = some (.nx [some (.obj n), e1, e2, some (.obj p), e4, some (pr f'), some (pr g)], m4.set p (.lst ((((fs.eraseIdx i).eraseIdx j) ++ [h]).map pr))) := by
    by_cases hd : d4 = 0
    · refine ⟨.an f' g, ⟨hf', hg⟩, rfl, ?_⟩
      have ht : lstM appH (.obj p) [.tup [filV (.tup [.str "and", f'.v, g.v]), .tup [.str "and", f'.v, g.v]]] m4 = some (.non, m4.set p (.lst ((((fs.eraseIdx i).eraseIdx j) ++ [Fo.an f' g]).map pr))) := htail (.an f' g)
      have b' := ba
      simp only [Fo.v] at b'
      simp [D_law_chosen_1_3, D_law_chosen_1_3_0, c4, hd, b', pr1, tyM_obj hp4, ht]
    · refine ⟨.or f' g, ⟨hf', hg⟩, rfl, ?_⟩
      have ht : lstM appH (.obj p) [.tup [filV (.tup [.str "or", f'.v, g.v]), .tup [.str "or", f'.v, g.v]]] m4 = some (.non, m4.set p (.lst ((((fs.eraseIdx i).eraseIdx j) ++ [Fo.or f' g]).map pr))) := htail (.or f' g)
      have b' := bo
      simp only [Fo.v] at b'
      simp [D_law_chosen_1_3, D_law_chosen_1_3_100, c4, hd, b', pr1, tyM_obj hp4, ht]
  refine ⟨(fs.eraseIdx i).eraseIdx j ++ [h], m4, some (pr f'), some (pr g), ?_, fun x hx => ?_, ?_, ?_, getlt hp4, ((((F1.p p).set hne _).trans ((F2.p p).set hne _)).trans (F3.p p)).trans (F4.p p)⟩
  · have hc0 : D_law_chosen_1_0 [some (.obj n), e1, e2, some (.obj p), e4, e5, e6] m = some (.nx [some (.obj n), e1, e2, some (.obj p), e4, some (pr f), e6], m1.set p (.lst ((fs.eraseIdx i).map pr))) := by
      unfold D_law_chosen_1_0
      rw [dAsg_ap, q1, bindS_ok]
      rfl
    have hc1 : D_law_chosen_1_1 [some (.obj n), e1, e2, some (.obj p), e4, some (pr f), e6] (m1.set p (.lst ((fs.eraseIdx i).map pr))) = some (.nx [some (.obj n), e1, e2, some (.obj p), e4, some (pr f), some (pr g)], m2.set p (.lst (((fs.eraseIdx i).eraseIdx j).map pr))) := by
      unfold D_law_chosen_1_1
      rw [dAsg_ap, q2, bindS_ok]
      rfl
    unfold poolD
    rw [dSeq_ap, hc0, thenS_nx, dSeq_ap, hc1, thenS_nx, dSeq_ap, hc2, thenS_nx, hc3]
  · rcases List.mem_append.mp hx with hx | hx
    · exact hgs x hx
    · rw [List.mem_singleton.mp hx]
      exact hh
  · rw [List.length_append, List.length_singleton]
    omega
  · rw [List.map_append, List.sum_append]
    simp only [List.map_cons, List.map_nil, List.sum_cons, List.sum_nil, Nat.add_zero]
    omega
theorem pool_loop {p : Nat} (hne : p ≠ n) (e1 e2 : Option Vl) : ∀ (xs : List Vl) {fs : List Fo} {m : Mem} (e4 e5 e6 : Option Vl), Bag ns n m → m[p]? = some (.lst (fs.map pr)) → (∀ f ∈ fs, f.Ok) → fs.length = xs.length + 1 → fs.length ≤ 100 → (fs.map Fo.n).sum ≤ 8 →
    ∃ (f : Fo) (m1 : Mem) (f4 f5 f6 : Option Vl), forL (gVar 4) poolD xs [some (.obj n), e1, e2, some (.obj p), e4, e5, e6] m = some (.nx [some (.obj n), e1, e2, some (.obj p), f4, f5, f6], m1) ∧ f.Ok ∧ f.n = (fs.map Fo.n).sum ∧ m1[p]? = some (.lst [pr f]) ∧ Fp ns n p m m1
  | [], fs, m, e4, e5, e6, hb, hp, hok, hl, hz, h8 => by
    obtain ⟨f, rfl⟩ := List.length_eq_one_iff.mp hl
    exact ⟨f, m, e4, e5, e6, rfl, hok f (List.mem_cons_self ..), by simp, hp, (Fr.refl hb).p p⟩
  | x :: xs, fs, m, e4, e5, e6, hb, hp, hok, hl, hz, h8 => by
    rw [List.length_cons] at hl
    obtain ⟨gs, m1, f5, f6, a1, a2, a3, a4, a5, a6⟩ := pool_step hb hne hp hok (by omega) hz h8 e1 e2 (some x) e5 e6
    have hp1 : (m1.set p (.lst (gs.map pr)))[p]? = some (.lst (gs.map pr)) := by
      rw [List.getElem?_set_self a5]
    have F := a6.set hne (.lst (gs.map pr))
    obtain ⟨f, m2, g4, g5, g6, b1, b2, b3, b4, b5⟩ := pool_loop hne e1 e2 xs (some x) f5 f6 F.bag hp1 a2 (by omega) (by omega) (by omega)
    refine ⟨f, m2, g4, g5, g6, ?_, b2, b3.trans a4, b4, F.trans b5⟩
    unfold forL
    simp only [gVar_ap]
    show (match poolD [some (.obj n), e1, e2, some (.obj p), some x, e5, e6] m with
      | some (.nx env2, m2) => forL (gVar 4) poolD xs env2 m2
      | some (.ct env2, m2) => forL (gVar 4) poolD xs env2 m2
      | some (.bk env2, m2) => some (.nx env2, m2)
      | r => r) = _
    rw [a1]
    exact b1
theorem sum_ones : ∀ {fs : List Fo}, (∀ f ∈ fs, f.Ok ∧ f.n = 1) → (fs.map Fo.n).sum = fs.length
  | [], _ => rfl
  | f :: fs, h => by
    rw [List.map_cons, List.sum_cons, sum_ones fun g hg => h g (List.mem_cons_of_mem _ hg), (h f (List.mem_cons_self ..)).2, List.length_cons]
    omega
theorem rng_i (z : Int) (h : z < 100) (h0 : 0 ≤ z) : rng1 [.int z] = some (intsZ 0 z.toNat) := rng_t z h0 h
theorem chosen_ok (hb : Bag ns n m) {Ts : List Vl} (hT : ∀ x ∈ Ts, Good x) (h1 : 0 < Ts.length) (h2 : Ts.length < 1000) (k : Int) (k1 : 1 ≤ k) (k8 : k ≤ 8) : ∃ (f : Fo) (m' : Mem), f.Ok ∧ (f.n : Int) = k ∧ c_law_chosen_3 [.obj n, .int k, .lst Ts] [] m = some (.ok (pr f), m') ∧ Fr ns n m m' := by
  have r1 := rng_i k (by omega) (by omega)
  obtain ⟨q, hq⟩ : ∃ q, q = (k - 1).toNat := ⟨_, rfl⟩
  have r2 := rng_i (k - 1) (by omega) (by omega)
  rw [← hq] at r2
  obtain ⟨fs, m1, a1, a2, a3, F1⟩ := leaves_ok hT h1 h2 (some (.int k)) none none none none (intsZ 0 k.toNat) m hb
  rw [ints_len] at a2
  have hsum := sum_ones a1
  have hp : (m1 ++ [Cell.lst (fs.map pr)])[m1.length]? = some (.lst (fs.map pr)) := by simp
  have hne : m1.length ≠ n := by
    have := F1.bag.lt
    omega
  obtain ⟨f, m2, f4, f5, f6, b1, b2, b3, b4, b5⟩ := pool_loop hne (some (.int k)) (some (.lst Ts)) (intsZ 0 q) none none none (F1.bag.app [Cell.lst (fs.map pr)]) hp (fun f hf => (a1 f hf).1) (by rw [ints_len]; omega) (by omega) (by omega)
  obtain ⟨d, m3, d0, d1, c0, F3⟩ := draw_i b5.bag 4 (by decide) (by decide)
  have hp3 := F3.at b4 hne
  have ix : ∀ mm : Mem, mm[m1.length]? = some (.lst [pr f]) → ixA (.obj m1.length) (.int 0) mm = some (pr f, mm) := fun mm h => ixA_obj h (atI_of (by decide) rfl)
  have hinv := inverted_ok b2 (by omega) m3
  have hF : Fr ns n m m3 := by
    refine ⟨F3.bag, ?_, fun j hj hl => ?_⟩
    · have := b5.le
      rw [List.length_append] at this
      have := F1.le
      have := F3.le
      omega
    · have l1 := F1.le
      have l2 := b5.le
      rw [List.length_append] at l2
      rw [F3.keep j hj (by omega), b5.keep j hj (by omega) (by rw [List.length_append]; omega), List.getElem?_append_left (by omega)]
      exact F1.keep j hj hl
  have sz : (intsZ 0 k.toNat).length ≤ sizeLine := by
    rw [ints_len]
    exact le_size (by omega)
  have hd : D_law_chosen = dSeq (dAsgL 3 true (dLc (iRg1 (dCons (dVar 1) (fun _ m => some (.ok [], m)))) (gcVar 4) dYes leafE ([("_law_turn", 4)].map (·.2)))) (dSeq (dFor (iRg1 (dCons (d2 subI (dVar 1) (dC (.int 1))) (fun _ m => some (.ok [], m)))) (gVar 4) poolD) D_law_chosen_2) := rfl
  have hr : ∀ e : Bool, (if e = true then f.inv else f).Ok ∧ (if e = true then f.inv else f).n = f.n := fun e => by
    cases e
    · exact ⟨b2, rfl⟩
    · exact ⟨Fo.inv_ok b2, Fo.inv_n f⟩
  have run : c_law_chosen_3 [.obj n, .int k, .lst Ts] [] m = some (.ok (pr (if decide (d = 0) = true then f.inv else f)), m3) := by
    show bodyD 7 D_law_chosen [.obj n, .int k, .lst Ts] m = _
    rw [hd]
    simp [bodyD, startZ, wipeE, r1, r2, sz, a3, b1]
    by_cases h : d = 0
    · simp [D_law_chosen_2, c0, h, ix m3 hp3, hinv]
    · simp [D_law_chosen_2, c0, h, ix m3 hp3]
  exact ⟨_, m3, (hr _).1, by rw [(hr _).2]; omega, run, hF⟩
end
/-! small data: == and repr of them -/
theorem le_sz {n : Nat} (h : n ≤ 100000) : n ≤ sizeLine := Nat.le_trans h (by decide)
structure Sm (d : PyData) (k n : Nat) : Prop where
  lay : PyData.canLay0 d = true
  dep : PyData.depth d ≤ k
  sho : PyData.showable d = true
  hd : PyData.hasDict d = false
  len : shB d ≤ n
theorem sm_str {s : Str} {n : Nat} (h : ∀ c ∈ s.cps.toList, c < 1114112) (hl : s.length ≤ n) : Sm (.str s) 0 (10 * n + 2) := by
  have hc : ∀ c ∈ s.cps.toList, c < 0x110000 := h
  refine ⟨?_, Nat.le_refl _, rfl, rfl, ?_⟩
  · show (s.cps.all fun c => decide (c < 0x110000)) = true
    rw [← Array.all_toList]
    exact List.all_eq_true.mpr fun c hm => decide_eq_true (hc c hm)
  · show (PyData.shown (.str s)).length ≤ _
    rw [PyData.shown_str]
    have := StrLaws.reprText_len s (fun c hm => Nat.lt_trans (hc c hm) (by decide))
    omega
theorem sm_two {a b : PyData} {k n m : Nat} (h : Sm a k n) (g : Sm b k m) : Sm (.tuple [a, b]) (k + 1) (n + m + 8) := by
  refine ⟨?_, ?_, ?_, ?_, ?_⟩
  · show (PyData.canLay0 a && (PyData.canLay0 b && true)) = true
    rw [h.lay, g.lay]
    rfl
  · show max (PyData.depth a) (max (PyData.depth b) 0) + 1 ≤ _
    have := h.dep
    have := g.dep
    omega
  · show (PyData.showable a && (PyData.showable b && true)) = true
    rw [h.sho, g.sho]
    rfl
  · show (PyData.hasDict a || (PyData.hasDict b || false)) = false
    rw [h.hd, g.hd]
    rfl
  · show shB a + 2 + (shB b + 2 + 0) + 4 ≤ _
    have := h.len
    have := g.len
    omega
theorem sm_three {a b c : PyData} {k n m l : Nat} (h : Sm a k n) (g : Sm b k m) (f : Sm c k l) : Sm (.tuple [a, b, c]) (k + 1) (n + m + l + 10) := by
  refine ⟨?_, ?_, ?_, ?_, ?_⟩
  · show (PyData.canLay0 a && (PyData.canLay0 b && (PyData.canLay0 c && true))) = true
    rw [h.lay, g.lay, f.lay]
    rfl
  · show max (PyData.depth a) (max (PyData.depth b) (max (PyData.depth c) 0)) + 1 ≤ _
    have := h.dep
    have := g.dep
    have := f.dep
    omega
  · show (PyData.showable a && (PyData.showable b && (PyData.showable c && true))) = true
    rw [h.sho, g.sho, f.sho]
    rfl
  · show (PyData.hasDict a || (PyData.hasDict b || (PyData.hasDict c || false))) = false
    rw [h.hd, g.hd, f.hd]
    rfl
  · show shB a + 2 + (shB b + 2 + (shB c + 2 + 0)) + 4 ≤ _
    have := h.len
    have := g.len
    have := f.len
    omega
theorem repr_sm {x : Vl} {d : PyData} {m : Mem} {k n : Nat} (e : toDm m x = some d) (s : Sm d k n) (hk : k ≤ 60) (hn : n ≤ 100000) : reprF [x] m = some (.str d.shown, m) := by
  have h1 := s.dep
  have h2 := s.len
  unfold reprF
  simp only [e]
  rw [if_pos]
  rw [s.sho, s.hd, decide_eq_true (show d.depth ≤ 60 by omega), decide_eq_true (le_sz (show shB d ≤ 100000 by omega))]
  rfl
theorem eq_sm {x y : Vl} {d e : PyData} {m : Mem} {k n k' n' : Nat} (h : flatL x = none ∨ flatL y = none) (h1 : toDm m x = some d) (h2 : toDm m y = some e) (s : Sm d k n) (t : Sm e k' n') (hk : k ≤ 60) (hk' : k' ≤ 60) : eqF x y m = some (.bl (PyData.eqv d e), m) ∧ neF x y m = some (.bl (!PyData.eqv d e), m) := by
  have a1 := s.dep
  have a2 := t.dep
  have s1 : SeqAt.shaped d = true := by
    unfold SeqAt.shaped
    rw [s.lay]
    exact decide_eq_true (by omega)
  have s2 : SeqAt.shaped e = true := by
    unfold SeqAt.shaped
    rw [t.lay]
    exact decide_eq_true (by omega)
  constructor
  · rw [eqF_obj h]
    unfold eqW datF
    rw [h1, h2]
    simp only [s1, s2, Bool.and_self, if_true]
  · rw [neF_obj h]
    unfold neW datF
    rw [h1, h2]
    simp only [s1, s2, Bool.and_self, if_true]
theorem Sm.mono {d : PyData} {k n k' n' : Nat} (s : Sm d k n) (hk : k ≤ k') (hn : n ≤ n') : Sm d k' n' := ⟨s.lay, Nat.le_trans s.dep hk, s.sho, s.hd, Nat.le_trans s.len hn⟩
theorem sm_one {a : PyData} {k n : Nat} (h : Sm a k n) : Sm (.tuple [a]) (k + 1) (n + 6) ∧ Sm (.list [a]) (k + 1) (n + 6) := by
  have e1 := h.lay
  have e2 := h.dep
  have e3 := h.sho
  have e4 := h.hd
  have e5 := h.len
  constructor
  · refine ⟨?_, ?_, ?_, ?_, ?_⟩
    · show (PyData.canLay0 a && true) = true
      rw [e1]
      rfl
    · show max (PyData.depth a) 0 + 1 ≤ _
      omega
    · show (PyData.showable a && true) = true
      rw [e3]
      rfl
    · show (PyData.hasDict a || false) = false
      rw [e4]
      rfl
    · show shB a + 2 + 0 + 4 ≤ _
      omega
  · refine ⟨?_, ?_, ?_, ?_, ?_⟩
    · show (PyData.canLay0 a && true) = true
      rw [e1]
      rfl
    · show max (PyData.depth a) 0 + 1 ≤ _
      omega
    · show (PyData.showable a && true) = true
      rw [e3]
      rfl
    · show (PyData.hasDict a || false) = false
      rw [e4]
      rfl
    · show shB a + 2 + 0 + 4 ≤ _
      omega
theorem sm_lst2 {a b : PyData} {k n m : Nat} (h : Sm a k n) (g : Sm b k m) : Sm (.list [a, b]) (k + 1) (n + m + 8) := by
  have z := sm_two h g
  exact ⟨z.lay, z.dep, z.sho, z.hd, z.len⟩
def dat : Vl → PyData
  | .int i => .int i
  | .str s => .str s
  | _ => .none
theorem sm_int : ∀ i : Int, 0 ≤ i → i ≤ 999 → Sm (.int i) 0 200 := fun i h0 h1 => by
  have e : ∀ n : Nat, n < 1000 → (decide (((n : Nat) : Int).natAbs.log2 < 1920) && decide ((PyData.shown (.int ((n : Nat) : Int))).length ≤ 200)) = true := by decide +kernel
  obtain ⟨n, rfl⟩ := Int.eq_ofNat_of_zero_le h0
  have h := e n (by omega)
  rw [Bool.and_eq_true, decide_eq_true_eq, decide_eq_true_eq] at h
  exact ⟨rfl, Nat.le_refl _, decide_eq_true h.1, rfl, h.2⟩
theorem sm_good {t : Vl} (h : Good t) : toD t = some (dat t) ∧ Sm (dat t) 0 200 := by
  cases h with
  | int i h0 h1 => exact ⟨rfl, sm_int i h0 h1⟩
  | str s hs =>
    refine ⟨rfl, ?_⟩
    have := sm_str (s := s) (n := 8) (fun c hc => by have := (hs.low c hc).2; omega) hs.l1
    exact ⟨this.lay, this.dep, this.sho, this.hd, Nat.le_trans this.len (by decide)⟩
theorem sm_lit (s : Str) (h : (s.cps.all fun c => decide (c < 1114112)) = true) (hl : s.length ≤ 10) : Sm (.str s) 0 110 := by
  have := sm_str (s := s) (n := 10) (fun c hc => by
    rw [← Array.all_toList] at h
    exact of_decide_eq_true (List.all_eq_true.mp h c hc)) hl
  exact ⟨this.lay, this.dep, this.sho, this.hd, Nat.le_trans this.len (by decide)⟩
def Fo.d : Fo → PyData
  | .all => .tuple [.str "all"]
  | .is w t => .tuple [.str "is", .str w, dat t]
  | .no f => .tuple [.str "not", f.d]
  | .an f g => .tuple [.str "and", f.d, g.d]
  | .or f g => .tuple [.str "or", f.d, g.d]
def Fo.bd : Fo → Nat
  | .all => 120
  | .is _ _ => 430
  | .no f => f.bd + 118
  | .an f g => f.bd + g.bd + 120
  | .or f g => f.bd + g.bd + 120
theorem Fo.bd_le : ∀ {f : Fo}, f.Ok → f.bd + 282 ≤ 900 * f.n ∧ (f.isNo = false → f.bd + 400 ≤ 900 * f.n)
  | .all, _ => ⟨by decide, fun _ => by decide⟩
  | .is _ _, _ => ⟨by show 430 + 282 ≤ 900 * 1; decide, fun _ => by show 430 + 400 ≤ 900 * 1; decide⟩
  | .no f, h => by
    have a := (Fo.bd_le h.1).2 h.2
    exact ⟨by show f.bd + 118 + 282 ≤ 900 * f.n; omega, fun e => nomatch e⟩
  | .an f g, h => by
    have a := (Fo.bd_le h.1).1
    have b := (Fo.bd_le h.2).1
    exact ⟨by show f.bd + g.bd + 120 + 282 ≤ 900 * (f.n + g.n); omega, fun _ => by show f.bd + g.bd + 120 + 400 ≤ 900 * (f.n + g.n); omega⟩
  | .or f g, h => by
    have a := (Fo.bd_le h.1).1
    have b := (Fo.bd_le h.2).1
    exact ⟨by show f.bd + g.bd + 120 + 282 ≤ 900 * (f.n + g.n); omega, fun _ => by show f.bd + g.bd + 120 + 400 ≤ 900 * (f.n + g.n); omega⟩
theorem toDs_cons {x : Vl} {xs : List Vl} {d : PyData} {ds : List PyData} (h : toD x = some d) (hs : toDs xs = some ds) : toDs (x :: xs) = some (d :: ds) := by
  show (match toD x with
    | some d => (match toDs xs with
      | some ds => some (d :: ds)
      | none => none)
    | none => none) = _
  rw [h, hs]
theorem toD_tup {xs : List Vl} {ds : List PyData} (hs : toDs xs = some ds) : toD (.tup xs) = some (.tuple ds) := by
  show (match toDs xs with
    | some ds => some (PyData.tuple ds)
    | none => none) = _
  rw [hs]
theorem toD_lst {xs : List Vl} {ds : List PyData} (hs : toDs xs = some ds) : toD (.lst xs) = some (.list ds) := by
  show (match toDs xs with
    | some ds => some (PyData.list ds)
    | none => none) = _
  rw [hs]
theorem Fo.toD : ∀ {f : Fo}, f.Ok → Z.toD f.v = some f.d
  | .all, _ => rfl
  | .is w t, h => toD_tup (toDs_cons rfl (toDs_cons rfl (toDs_cons (sm_good h.2).1 rfl)))
  | .no f, h => toD_tup (toDs_cons rfl (toDs_cons (Fo.toD h.1) rfl))
  | .an f g, h => toD_tup (toDs_cons rfl (toDs_cons (Fo.toD h.1) (toDs_cons (Fo.toD h.2) rfl)))
  | .or f g, h => toD_tup (toDs_cons rfl (toDs_cons (Fo.toD h.1) (toDs_cons (Fo.toD h.2) rfl)))
theorem toDm_tup {m : Mem} {xs : List Vl} {d : PyData} (h : toD (.tup xs) = some d) : toDm m (.tup xs) = some d := h
theorem Fo.toDm {f : Fo} (h : f.Ok) (m : Mem) : Z.toDm m f.v = some f.d := by
  obtain ⟨xs, e⟩ := f.tup
  have q := Fo.toD h
  rw [e] at q ⊢
  exact q
theorem Fo.sm : ∀ {f : Fo}, f.Ok → Sm f.d f.dp f.bd
  | .all, _ => (sm_one (sm_lit "all" (by decide +kernel) (by decide +kernel))).1.mono (Nat.le_refl _) (by decide)
  | .is w t, h => by
    have hwl : ∀ w ∈ AB, (w.cps.all fun c => decide (c < 1114112)) = true ∧ w.length ≤ 10 := by decide +kernel
    have z := sm_three (sm_lit "is" (by decide +kernel) (by decide +kernel)) (sm_lit w (hwl w h.1).1 (hwl w h.1).2) (sm_good h.2).2
    exact z
  | .no f, h => by
    have z := sm_two ((sm_lit "not" (by decide +kernel) (by decide +kernel)).mono (Nat.zero_le _) (Nat.le_refl _)) (Fo.sm h.1)
    exact z.mono (Nat.le_refl _) (by show 110 + f.bd + 8 ≤ f.bd + 118; omega)
  | .an f g, h => by
    have z := sm_three ((sm_lit "and" (by decide +kernel) (by decide +kernel)).mono (Nat.zero_le _) (Nat.le_refl _)) ((Fo.sm h.1).mono (Nat.le_max_left f.dp g.dp) (Nat.le_refl _)) ((Fo.sm h.2).mono (Nat.le_max_right f.dp g.dp) (Nat.le_refl _))
    exact z.mono (Nat.le_refl _) (by show 110 + f.bd + g.bd + 10 ≤ f.bd + g.bd + 120; omega)
  | .or f g, h => by
    have z := sm_three ((sm_lit "or" (by decide +kernel) (by decide +kernel)).mono (Nat.zero_le _) (Nat.le_refl _)) ((Fo.sm h.1).mono (Nat.le_max_left f.dp g.dp) (Nat.le_refl _)) ((Fo.sm h.2).mono (Nat.le_max_right f.dp g.dp) (Nat.le_refl _))
    exact z.mono (Nat.le_refl _) (by show 110 + f.bd + g.bd + 10 ≤ f.bd + g.bd + 120; omega)
/-- the bounds that are wanted of forms of few parts -/
theorem Fo.sm20 {f : Fo} (h : f.Ok) (hn : f.n ≤ 20) : Sm f.d 40 20000 := (Fo.sm h).mono (by have := (Fo.dp_le h).1; omega) (by have := (Fo.bd_le h).1; omega)
theorem repr_fo {f : Fo} (h : f.Ok) (hn : f.n ≤ 20) (m : Mem) : reprF [f.v] m = some (.str f.d.shown, m) := repr_sm (Fo.toDm h m) (Fo.sm20 h hn) (by decide) (by decide)
/-! == of forms -/
theorem eqv_good {t u : Vl} (h : Good t) (h' : Good u) : PyData.eqv (dat t) (dat u) = true ↔ t = u := by
  cases h with
  | int i _ _ => cases h' with
    | int j _ _ =>
      show (i == j) = true ↔ _
      rw [beq_iff_eq]
      exact ⟨fun e => e ▸ rfl, fun e => by cases e; rfl⟩
    | str s _ => exact ⟨(fun e => nomatch e), (fun e => nomatch e)⟩
  | str s _ => cases h' with
    | int j _ _ => exact ⟨(fun e => nomatch e), (fun e => nomatch e)⟩
    | str s' _ =>
      show (s == s') = true ↔ _
      rw [beq_iff_eq]
      exact ⟨fun e => e ▸ rfl, fun e => by cases e; rfl⟩
def Fo.args : Fo → List PyData
  | .all => []
  | .is w t => [.str w, dat t]
  | .no f => [f.d]
  | .an f g => [f.d, g.d]
  | .or f g => [f.d, g.d]
theorem Fo.d_args (f : Fo) : f.d = .tuple (.str f.wd :: f.args) := by cases f <;> rfl
theorem eqv_args (f g : Fo) : PyData.eqv f.d g.d = ((f.wd == g.wd) && PyData.eqvAll f.args g.args) := by
  rw [f.d_args, g.d_args]
  rfl
theorem eqv_fo : ∀ {f g : Fo}, f.Ok → g.Ok → (PyData.eqv f.d g.d = true ↔ f = g)
  | .all, .all, _, _ => ⟨fun _ => rfl, fun _ => by decide +kernel⟩
  | .all, .is _ _, _, _ => by
    rw [eqv_args]
    exact ⟨fun e => absurd (and2 e).1 (show ¬ (("all" : Str) == "is") = true by decide +kernel), fun e => nomatch e⟩
  | .all, .no _, _, _ => by
    rw [eqv_args]
    exact ⟨fun e => absurd (and2 e).1 (show ¬ (("all" : Str) == "not") = true by decide +kernel), fun e => nomatch e⟩
  | .all, .an _ _, _, _ => by
    rw [eqv_args]
    exact ⟨fun e => absurd (and2 e).1 (show ¬ (("all" : Str) == "and") = true by decide +kernel), fun e => nomatch e⟩
  | .all, .or _ _, _, _ => by
    rw [eqv_args]
    exact ⟨fun e => absurd (and2 e).1 (show ¬ (("all" : Str) == "or") = true by decide +kernel), fun e => nomatch e⟩
  | .is _ _, .all, _, _ => by
    rw [eqv_args]
    exact ⟨fun e => absurd (and2 e).1 (show ¬ (("is" : Str) == "all") = true by decide +kernel), fun e => nomatch e⟩
  | .is w t, .is w' t', h, h' => by
    have e := eqv_good h.2 h'.2
    rw [eqv_args]
    show (("is" : Str) == "is" && ((w == w') && (PyData.eqv (dat t) (dat t') && true))) = true ↔ _
    rw [beq_self_eq_true, Bool.true_and, Bool.and_true, Bool.and_eq_true, beq_iff_eq, e]
    exact ⟨fun e => by rw [e.1, e.2], fun e => by cases e; exact ⟨rfl, rfl⟩⟩
  | .is _ _, .no _, _, _ => by
    rw [eqv_args]
    exact ⟨fun e => absurd (and2 e).1 (show ¬ (("is" : Str) == "not") = true by decide +kernel), fun e => nomatch e⟩
  | .is _ _, .an _ _, _, _ => by
    rw [eqv_args]
    exact ⟨fun e => absurd (and2 e).1 (show ¬ (("is" : Str) == "and") = true by decide +kernel), fun e => nomatch e⟩
  | .is _ _, .or _ _, _, _ => by
    rw [eqv_args]
    exact ⟨fun e => absurd (and2 e).1 (show ¬ (("is" : Str) == "or") = true by decide +kernel), fun e => nomatch e⟩
  | .no _, .all, _, _ => by
    rw [eqv_args]
    exact ⟨fun e => absurd (and2 e).1 (show ¬ (("not" : Str) == "all") = true by decide +kernel), fun e => nomatch e⟩
  | .no _, .is _ _, _, _ => by
    rw [eqv_args]
    exact ⟨fun e => absurd (and2 e).1 (show ¬ (("not" : Str) == "is") = true by decide +kernel), fun e => nomatch e⟩
  | .no f, .no g, h, h' => by
    have e := eqv_fo h.1 h'.1
    rw [eqv_args]
    show (("not" : Str) == "not" && (PyData.eqv f.d g.d && true)) = true ↔ _
    rw [beq_self_eq_true, Bool.true_and, Bool.and_true, e]
    exact ⟨fun e => by rw [e], fun e => by cases e; rfl⟩
  | .no _, .an _ _, _, _ => by
    rw [eqv_args]
    exact ⟨fun e => absurd (and2 e).1 (show ¬ (("not" : Str) == "and") = true by decide +kernel), fun e => nomatch e⟩
  | .no _, .or _ _, _, _ => by
    rw [eqv_args]
    exact ⟨fun e => absurd (and2 e).1 (show ¬ (("not" : Str) == "or") = true by decide +kernel), fun e => nomatch e⟩
  | .an _ _, .all, _, _ => by
    rw [eqv_args]
    exact ⟨fun e => absurd (and2 e).1 (show ¬ (("and" : Str) == "all") = true by decide +kernel), fun e => nomatch e⟩
  | .an _ _, .is _ _, _, _ => by
    rw [eqv_args]
    exact ⟨fun e => absurd (and2 e).1 (show ¬ (("and" : Str) == "is") = true by decide +kernel), fun e => nomatch e⟩
  | .an _ _, .no _, _, _ => by
    rw [eqv_args]
    exact ⟨fun e => absurd (and2 e).1 (show ¬ (("and" : Str) == "not") = true by decide +kernel), fun e => nomatch e⟩
  | .an f g, .an f' g', h, h' => by
    have e := eqv_fo h.1 h'.1
    have e2 := eqv_fo h.2 h'.2
    rw [eqv_args]
    show (("and" : Str) == "and" && (PyData.eqv f.d f'.d && (PyData.eqv g.d g'.d && true))) = true ↔ _
    rw [beq_self_eq_true, Bool.true_and, Bool.and_true, Bool.and_eq_true, e, e2]
    exact ⟨fun e => by rw [e.1, e.2], fun e => by cases e; exact ⟨rfl, rfl⟩⟩
  | .an _ _, .or _ _, _, _ => by
    rw [eqv_args]
    exact ⟨fun e => absurd (and2 e).1 (show ¬ (("and" : Str) == "or") = true by decide +kernel), fun e => nomatch e⟩
  | .or _ _, .all, _, _ => by
    rw [eqv_args]
    exact ⟨fun e => absurd (and2 e).1 (show ¬ (("or" : Str) == "all") = true by decide +kernel), fun e => nomatch e⟩
  | .or _ _, .is _ _, _, _ => by
    rw [eqv_args]
    exact ⟨fun e => absurd (and2 e).1 (show ¬ (("or" : Str) == "is") = true by decide +kernel), fun e => nomatch e⟩
  | .or _ _, .no _, _, _ => by
    rw [eqv_args]
    exact ⟨fun e => absurd (and2 e).1 (show ¬ (("or" : Str) == "not") = true by decide +kernel), fun e => nomatch e⟩
  | .or _ _, .an _ _, _, _ => by
    rw [eqv_args]
    exact ⟨fun e => absurd (and2 e).1 (show ¬ (("or" : Str) == "and") = true by decide +kernel), fun e => nomatch e⟩
  | .or f g, .or f' g', h, h' => by
    have e := eqv_fo h.1 h'.1
    have e2 := eqv_fo h.2 h'.2
    rw [eqv_args]
    show (("or" : Str) == "or" && (PyData.eqv f.d f'.d && (PyData.eqv g.d g'.d && true))) = true ↔ _
    rw [beq_self_eq_true, Bool.true_and, Bool.and_true, Bool.and_eq_true, e, e2]
    exact ⟨fun e => by rw [e.1, e.2], fun e => by cases e; exact ⟨rfl, rfl⟩⟩
theorem eq_fo {f g : Fo} (h : f.Ok) (h' : g.Ok) (hn : f.n ≤ 20) (hn' : g.n ≤ 20) (m : Mem) : eqF f.v g.v m = some (.bl (PyData.eqv f.d g.d), m) := (eq_sm (.inl f.flat) (Fo.toDm h m) (Fo.toDm h' m) (Fo.sm20 h hn) (Fo.sm20 h' hn') (by decide) (by decide)).1
theorem fil_eq {f f' : Vl} {b : Bool} {m : Mem} (h : eqF f f' m = some (.bl b, m)) : G_Filter_eq [filV f, filV f'] m = some (.ok (.bl b), m) := by
  have f1 : ∀ (e : Ev), dFld ["Filter"] "form" (dVar 0) (some (filV f) :: e) m = some (.ok f, m) := fun e => rfl
  have f2 : ∀ x (e : Ev), dFld ["Filter"] "form" (dVar 1) (x :: some (filV f') :: e) m = some (.ok f', m) := fun x e => rfl
  have hi : isiF csZ (kitT kitL) [filV f', .glo "Filter"] m = some (.bl true, m) := rfl
  show B_Filter_eq [filV f, filV f'] m = _
  simp [B_Filter_eq, bodyD, startZ, D_Filter_eq, -dFld_ap, f1, f2, hi, h]
/-! each of some things once -/
def veq (x y : Vl) : Bool := match Z.toD x, Z.toD y with
  | some d, some e => PyData.eqv d e
  | _, _ => false
def onceL : List Vl → List Vl → List Vl
  | acc, [] => acc
  | acc, x :: l => if (acc.any fun y => veq y x) = true then onceL acc l else onceL (acc ++ [x]) l
/-- small values: what == and repr want of them -/
structure Sv (x : Vl) : Prop where
  d : ∃ d, Z.toD x = some d ∧ Sm d 1 440
theorem sv_good {t : Vl} (h : Good t) : Sv t := by
  obtain ⟨h1, h2⟩ := sm_good h
  exact ⟨_, h1, h2.mono (by decide) (by decide)⟩
def pv (p : Str × Vl) : Vl := .tup [.str p.1, p.2]
theorem sv_pv {p : Str × Vl} (hw : p.1 ∈ AB) (h : Good p.2) : Sv (pv p) := by
  obtain ⟨h1, h2⟩ := sm_good h
  have hwl : ∀ w ∈ AB, (w.cps.all fun c => decide (c < 1114112)) = true ∧ w.length ≤ 10 := by decide +kernel
  exact ⟨_, toD_tup (toDs_cons rfl (toDs_cons h1 rfl)), (sm_two (sm_lit p.1 (hwl _ hw).1 (hwl _ hw).2) h2).mono (by decide) (by decide)⟩
theorem toDs_all : ∀ {L : List Vl}, (∀ x ∈ L, Sv x) → ∃ ds, Z.toDs L = some ds ∧ ds.length = L.length ∧ ∀ d ∈ ds, Sm d 1 440
  | [], _ => ⟨[], rfl, rfl, fun _ h => nomatch h⟩
  | x :: L, h => by
    obtain ⟨d, h1, h2⟩ := (h x (List.mem_cons_self ..)).d
    obtain ⟨ds, h3, h4, h5⟩ := toDs_all fun y hy => h y (List.mem_cons_of_mem _ hy)
    refine ⟨d :: ds, toDs_cons h1 h3, by rw [List.length_cons, List.length_cons, h4], fun e he => ?_⟩
    rcases List.mem_cons.mp he with rfl | he
    · exact h2
    · exact h5 e he
theorem sm_all : ∀ {ds : List PyData} {k n : Nat}, (∀ d ∈ ds, Sm d k n) → PyData.canLayAll0 ds = true ∧ PyData.depthAll ds ≤ k ∧ PyData.showableAll ds = true ∧ PyData.hasDictAll ds = false ∧ shBs ds ≤ ds.length * (n + 2)
  | [], k, n, _ => ⟨rfl, Nat.zero_le _, rfl, rfl, by show 0 ≤ _; exact Nat.zero_le _⟩
  | d :: ds, k, n, h => by
    obtain ⟨h1, h2, h3, h4, h5⟩ := sm_all fun e he => h e (List.mem_cons_of_mem _ he)
    have s := h d (List.mem_cons_self ..)
    refine ⟨?_, ?_, ?_, ?_, ?_⟩
    · show (PyData.canLay0 d && PyData.canLayAll0 ds) = true
      rw [s.lay, h1]
      rfl
    · show max (PyData.depth d) (PyData.depthAll ds) ≤ k
      have := s.dep
      omega
    · show (PyData.showable d && PyData.showableAll ds) = true
      rw [s.sho, h3]
      rfl
    · show (PyData.hasDict d || PyData.hasDictAll ds) = false
      rw [s.hd, h4]
      rfl
    · show shB d + 2 + shBs ds ≤ (ds.length + 1) * (n + 2)
      have := s.len
      rw [Nat.add_mul]
      omega
theorem sm_list {ds : List PyData} {k n : Nat} (h : ∀ d ∈ ds, Sm d k n) : Sm (.list ds) (k + 1) (ds.length * (n + 2) + 4) := by
  obtain ⟨h1, h2, h3, h4, h5⟩ := sm_all h
  exact ⟨h1, by show PyData.depthAll ds + 1 ≤ _; omega, h3, h4, by show shBs ds + 4 ≤ _; omega⟩
theorem list_d {L : List Vl} (h : ∀ x ∈ L, Sv x) (hl : L.length ≤ 100) : ∃ d, (∀ m, Z.toDm m (.lst L) = some d) ∧ (∀ (m : Mem) (n : Nat), m[n]? = some (.lst L) → Z.toDm m (.obj n) = some d) ∧ Sm d 2 50000 ∧ Z.toD (.lst L) = some d := by
  obtain ⟨ds, h1, h2, h3⟩ := toDs_all h
  refine ⟨.list ds, fun m => toD_lst h1, fun m n hn => ?_, (sm_list h3).mono (by decide) (by rw [h2]; omega), toD_lst h1⟩
  unfold Z.toDm
  simp only [hn, h1]
theorem repr_list {L : List Vl} (h : ∀ x ∈ L, Sv x) (hl : L.length ≤ 100) : ∃ S : Str, (∀ m, reprF [.lst L] m = some (.str S, m)) ∧ ∀ (m : Mem) (n : Nat), m[n]? = some (.lst L) → reprF [.obj n] m = some (.str S, m) := by
  obtain ⟨d, h1, h2, h3, _⟩ := list_d h hl
  exact ⟨d.shown, fun m => repr_sm (h1 m) h3 (by decide) (by decide), fun m n hn => repr_sm (h2 m n hn) h3 (by decide) (by decide)⟩
/-! in -/
def gV : Vl → V
  | .int i => .int i
  | .str s => .str s
  | _ => .non
theorem flat_good {t : Vl} (h : Good t) : flatL t = some (gV t) := by cases h <;> rfl
theorem flats_good : ∀ {L : List Vl}, (∀ t ∈ L, Good t) → flatLs L = some (L.map gV)
  | [], _ => rfl
  | t :: L, h => by
    show (match flatL t with
      | some v => (match flatLs L with
        | some vs => some (v :: vs)
        | none => none)
      | none => none) = _
    rw [flat_good (h t (List.mem_cons_self ..)), flats_good fun x hx => h x (List.mem_cons_of_mem _ hx)]
    rfl
theorem eqV_good {t u : Vl} (h : Good t) (h' : Good u) : eqV (gV t) (gV u) = veq t u := by
  cases h with
  | int i _ _ => cases h' with
    | int j _ _ =>
      rfl
    | str s _ => rfl
  | str s _ => cases h' with
    | int j _ _ => rfl
    | str s' _ =>
      rfl
theorem inV_good {t : Vl} (h : Good t) : ∀ {L : List Vl}, (∀ x ∈ L, Good x) → inV (gV t) (L.map gV) = L.any fun y => veq y t
  | [], _ => rfl
  | x :: L, hL => by
    have ih := inV_good h fun y hy => hL y (List.mem_cons_of_mem _ hy)
    unfold inV at ih ⊢
    rw [List.map_cons, List.any_cons, List.any_cons, ih, eqV_good (hL x (List.mem_cons_self ..)) h]
theorem notin_good {t : Vl} (h : Good t) {L : List Vl} (hL : ∀ x ∈ L, Good x) {m : Mem} {n : Nat} (hn : m[n]? = some (.lst L)) : inA true t (.obj n) m = some (.bl (!(L.any fun y => veq y t)), m) := by
  have e : inS true t (.obj n) m = some (.bl (!(L.any fun y => veq y t)), m) := by
    unfold inS seqD
    simp only [hn, flat_good h, flats_good hL, inV_good h hL, if_true]
  unfold inA orF
  rw [e]
theorem any_toD {d : PyData} : ∀ {L : List Vl} {ds : List PyData}, Z.toDs L = some ds → ∀ {x : Vl}, Z.toD x = some d → (ds.any fun z => PyData.eqv z d) = L.any fun y => veq y x
  | [], _, h, x, hx => by
    cases h
    rfl
  | y :: L, ds, h, x, hx => by
    unfold Z.toDs at h
    split at h
    · rename_i e he
      split at h
      · rename_i es hes
        cases h
        have hv : veq y x = PyData.eqv e d := by
          unfold veq
          rw [he, hx]
        rw [List.any_cons, List.any_cons, hv, any_toD hes hx]
      · cases h
    · cases h
theorem notin_pair {p : Str × Vl} (hp : p.1 ∈ AB ∧ Good p.2) {L : List (Str × Vl)} (hL : ∀ x ∈ L, x.1 ∈ AB ∧ Good x.2) (hl : L.length ≤ 100) {m : Mem} {n : Nat} (hn : m[n]? = some (.lst (L.map pv))) : inA true (pv p) (.obj n) m = some (.bl (!((L.map pv).any fun y => veq y (pv p))), m) := by
  have hsv : ∀ x ∈ L.map pv, Sv x := fun x hx => by
    obtain ⟨q, hq, rfl⟩ := List.mem_map.mp hx
    exact sv_pv (hL q hq).1 (hL q hq).2
  obtain ⟨ds, h1, h2, h3⟩ := toDs_all hsv
  obtain ⟨d, h4, h5⟩ := (sv_pv hp.1 hp.2).d
  have hm : Z.toDm m (.obj n) = some (.list ds) := by
    unfold Z.toDm
    simp only [hn, h1]
  have s1 : SeqAt.shaped d = true := by
    unfold SeqAt.shaped
    have := h5.dep
    rw [h5.lay]
    exact decide_eq_true (by omega)
  have s2 : SeqAt.shaped (.list ds) = true := by
    have z := sm_list h3
    unfold SeqAt.shaped
    have := z.dep
    rw [z.lay]
    exact decide_eq_true (by omega)
  have e : inDl true (pv p) (.obj n) m = some (.bl (!((L.map pv).any fun y => veq y (pv p))), m) := by
    unfold inDl
    rw [show Z.toDm m (pv p) = some d from h4, hm]
    simp only [s1, s2, Bool.and_self, if_true, any_toD h1 h4]
  have e1 : inS true (pv p) (.obj n) m = none := by
    unfold inS seqD
    simp only [hn]
    rfl
  have e2 : inT true (pv p) (.obj n) m = none := rfl
  unfold inA orF
  rw [e1]
  dsimp only
  rw [e2]
  exact e
/-! the comparisons of a form -/
def Fo.prs : Fo → List (Str × Vl)
  | .all => []
  | .is w t => [(w, t)]
  | .no f => f.prs
  | .an f g => f.prs ++ g.prs
  | .or f g => f.prs ++ g.prs
theorem Fo.prs_ok : ∀ {f : Fo}, f.Ok → ∀ p ∈ f.prs, p.1 ∈ AB ∧ Good p.2
  | .all, _, p, hp => nomatch hp
  | .is w t, h, p, hp => by
    rw [List.mem_singleton.mp hp]
    exact h
  | .no f, h, p, hp => Fo.prs_ok h.1 p hp
  | .an f g, h, p, hp => by
    rcases List.mem_append.mp hp with hp | hp
    · exact Fo.prs_ok h.1 p hp
    · exact Fo.prs_ok h.2 p hp
  | .or f g, h, p, hp => by
    rcases List.mem_append.mp hp with hp | hp
    · exact Fo.prs_ok h.1 p hp
    · exact Fo.prs_ok h.2 p hp
theorem Fo.prs_len : ∀ f : Fo, f.prs.length ≤ f.n
  | .all => Nat.zero_le _
  | .is _ _ => Nat.le_refl _
  | .no f => f.prs_len
  | .an f g => by
    show (f.prs ++ g.prs).length ≤ f.n + g.n
    rw [List.length_append]
    exact Nat.add_le_add f.prs_len g.prs_len
  | .or f g => by
    show (f.prs ++ g.prs).length ≤ f.n + g.n
    rw [List.length_append]
    exact Nat.add_le_add f.prs_len g.prs_len
def Fo.sub : Fo → List Fo
  | .all => []
  | .is _ _ => []
  | .no f => [f]
  | .an f g => [f, g]
  | .or f g => [f, g]
def Fo.isIs : Fo → Bool
  | .is _ _ => true
  | _ => false
theorem Fo.v_sub {f : Fo} (h : f.isIs = false) : f.v = .tup (.str f.wd :: f.sub.map Fo.v) := by
  cases f <;> first | rfl | cases h
theorem Fo.prs_sub {f : Fo} (h : f.isIs = false) : f.prs = (f.sub.map Fo.prs).flatten := by
  cases f <;> first | rfl | (cases h; done) | simp [Fo.prs, Fo.sub]
theorem Fo.sub_lt {f : Fo} (h : f.Ok) : ∀ g ∈ f.sub, g.Ok ∧ g.dp + 1 ≤ f.dp ∧ g.n ≤ f.n := by
  cases f with
  | all => exact fun g hg => nomatch hg
  | is _ _ => exact fun g hg => nomatch hg
  | no f =>
    intro g hg
    rw [List.mem_singleton.mp hg]
    exact ⟨h.1, Nat.le_refl _, Nat.le_refl _⟩
  | an a b =>
    have d : (Fo.an a b).dp = max a.dp b.dp + 1 := rfl
    have e : (Fo.an a b).n = a.n + b.n := rfl
    intro g hg
    rcases List.mem_cons.mp hg with rfl | hg
    · exact ⟨h.1, by omega, by omega⟩
    · rw [List.mem_singleton.mp hg]
      exact ⟨h.2, by omega, by omega⟩
  | or a b =>
    have d : (Fo.or a b).dp = max a.dp b.dp + 1 := rfl
    have e : (Fo.or a b).n = a.n + b.n := rfl
    intro g hg
    rcases List.mem_cons.mp hg with rfl | hg
    · exact ⟨h.1, by omega, by omega⟩
    · rw [List.mem_singleton.mp hg]
      exact ⟨h.2, by omega, by omega⟩
theorem wd_is (f : Fo) : (f.wd == "is") = f.isIs := by
  cases f with
  | all => show (("all" : Str) == "is") = false; decide +kernel
  | is _ _ => show (("is" : Str) == "is") = true; decide +kernel
  | no _ => show (("not" : Str) == "is") = false; decide +kernel
  | an _ _ => show (("and" : Str) == "is") = false; decide +kernel
  | or _ _ => show (("or" : Str) == "is") = false; decide +kernel
theorem sl_tail (x : Vl) (xs : List Vl) (m : Mem) : slD (.tup (x :: xs)) (some 1) none m = some (.tup xs, m) := by
  have h1 : HT.sIx (x :: xs).length 0 (some 1) = 1 := by
    show min 1 (xs.length + 1) = 1
    omega
  have h2 : HT.sIx (x :: xs).length (x :: xs).length none = (x :: xs).length := rfl
  show (if (decide (HT.sIx (x :: xs).length 0 (some 1) = 0) && decide (HT.sIx (x :: xs).length (x :: xs).length none = (x :: xs).length)) = true then none else some (Vl.tup (cutZ (x :: xs) (some 1) none), m)) = _
  unfold cutZ
  rw [h1, h2]
  rw [if_neg (by simp)]
  simp
theorem cnv_pvs (b : Nat) (m : Mem) (fu : Nat) : ∀ {L : List (Str × Vl)}, (∀ p ∈ L, Good p.2) → mapO (cnv [] b m (fu + 3)) (L.map pv) = some (L.map pv)
  | [], _ => rfl
  | p :: L, h => by
    have e : cnv [] b m (fu + 3) (pv p) = some (pv p) := by
      refine cnv_tup ?_
      have e1 := cnv_good (h p (List.mem_cons_self ..)) b (fu + 1) m
      have e2 : ∀ s, cnv [] b m (fu + 2) (.str s) = some (.str s) := fun s => rfl
      simp [mapO, e1, e2]
    rw [List.map_cons]
    simp [mapO, e, cnv_pvs b m fu fun q hq => h q (List.mem_cons_of_mem _ hq)]
/-! compared_in -/
def extD (cs : List Vl → List Vl → Mem → Option (R Vl × Mem)) : DS := dDrop (dM "list" extM (dVar 1) (dCons (dCall 1 0 cs (dCons (dVar 2) (fun _ m => some (.ok [], m))) dNone) (fun _ m => some (.ok [], m))))
theorem ext_loop {cs : List Vl → List Vl → Mem → Option (R Vl × Mem)} (e0 : Option Vl) : ∀ (fs : List Fo) (L : List (Str × Vl)) (e2 : Option Vl), (∀ f ∈ fs, ∀ m, cs [f.v] [] m = some (.ok (.lst (f.prs.map pv)), m)) → L.length + ((fs.map Fo.prs).flatten).length ≤ 1000 → ∃ e2', forL (gVar 2) (extD cs) (fs.map Fo.v) [e0, some (.obj 0), e2] [.lst (L.map pv)] = some (.nx [e0, some (.obj 0), e2'], [.lst ((L ++ (fs.map Fo.prs).flatten).map pv)])
  | [], L, e2, h, hl => ⟨e2, by simp [forL]⟩
  | f :: fs, L, e2, h, hl => by
    simp only [List.map_cons, List.flatten_cons, List.length_append] at hl
    obtain ⟨e2', ih⟩ := ext_loop e0 fs (L ++ f.prs) (some f.v) (fun g hg => h g (List.mem_cons_of_mem _ hg)) (by rw [List.length_append]; omega)
    refine ⟨e2', ?_⟩
    have hp : ([Cell.lst (L.map pv)] : Mem)[0]? = some (.lst (L.map pv)) := rfl
    have hc := h f (List.mem_cons_self ..) [.lst (L.map pv)]
    have he := extM_z (y := .lst (f.prs.map pv)) (zs := f.prs.map pv) hp rfl (by rw [List.length_map, List.length_map]; exact le_size (by omega))
    have step : extD cs [e0, some (.obj 0), some f.v] [.lst (L.map pv)] = some (.nx [e0, some (.obj 0), some f.v], [.lst ((L ++ f.prs).map pv)]) := by
      simp [extD, tyM_obj hp, hc, he]
    rw [List.map_cons]
    unfold forL
    simp only [gVar_ap]
    show (match extD cs [e0, some (.obj 0), some f.v] [.lst (L.map pv)] with
      | some (.nx env2, m2) => forL (gVar 2) (extD cs) (fs.map Fo.v) env2 m2
      | some (.ct env2, m2) => forL (gVar 2) (extD cs) (fs.map Fo.v) env2 m2
      | some (.bk env2, m2) => some (.nx env2, m2)
      | r => r) = _
    rw [step]
    dsimp only
    rw [ih]
    simp
def csK (k : Nat) : List Vl → List Vl → Mem → Option (R Vl × Mem) := freshG kNone 30 fun xs ys => B_compared_in k (pickL [.a 0] xs [] [] ys)
theorem B_step (k : Nat) : B_compared_in (k + 1) = bodyD 3 (dSeq (dIfS (b2 eqF (d2 ixA (dVar 0) (dC (.int 0))) (dC (.str "is")))
  (dRet (dFrz (dLst (dCons (dTup (dCons (d2 ixA (dVar 0) (dC (.int 1))) (dCons (d2 ixA (dVar 0) (dC (.int 2))) (fun _ m => some (.ok [], m))))) (fun _ m => some (.ok [], m))))))
  dNil)
  (dSeq (dAsg 1 (dNew (dLst (fun _ m => some (.ok [], m)))))
  (dSeq (dFor (iSeqD (dSl (dVar 0) (dPart (dC (.int 1))) (fun _ m => some (.ok none, m)))) (gVar 2) (extD (csK k)))
  (dRet (dVar 1))))) := rfl
theorem compared_ok' : ∀ (k : Nat) (f : Fo) (m : Mem), f.Ok → f.n ≤ 20 → f.dp ≤ k → csK k [f.v] [] m = some (.ok (.lst (f.prs.map pv)), m)
  | 0, f, m, h, hn, hk => by cases f <;> cases hk
  | k + 1, f, m, h, hn, hk => by
    have hcl : cloL 0 [f.v] = true := by
      show (clo 0 f.v && true) = true
      rw [Fo.clo h]
      rfl
    cases his : f.isIs with
    | true =>
      obtain ⟨w, t, rfl⟩ : ∃ w t, f = .is w t := by
        cases f <;> first | (cases his; done) | exact ⟨_, _, rfl⟩
      have i0 : ixA (Fo.is w t).v (.int 0) [] = some (.str "is", []) := ixW (.is w t) []
      have i1 : ixA (Fo.is w t).v (.int 1) [] = some (.str w, []) := ixA_tup (atI_of (by decide) rfl)
      have i2 : ixA (Fo.is w t).v (.int 2) [] = some (t, []) := ixA_tup (atI_of (by decide) rfl)
      have run : B_compared_in (k + 1) [(Fo.is w t).v] [] = some (.ok (.lst [.tup [.str w, t]]), []) := by
        rw [B_step]
        simp [bodyD, startZ, i0, i1, i2]
      refine fresh_val run hcl rfl ?_
      have := cnv_pvs m.length ([] : Mem) 26 (L := [(w, t)]) (fun p hp => by rw [List.mem_singleton.mp hp]; exact h.2)
      show (mapO (cnv [] m.length [] 29) [pv (w, t)]).map Vl.lst = _
      rw [show [pv (w, t)] = [(w, t)].map pv from rfl, this]
      rfl
    | false =>
      have hv := Fo.v_sub his
      have hw := wd_is f
      rw [his] at hw
      have i0 := ixW f []
      have hs : slD f.v (some 1) none [Cell.lst []] = some (.tup (f.sub.map Fo.v), [Cell.lst []]) := by
        rw [hv]
        exact sl_tail _ _ _
      have hlen : ((f.sub.map Fo.prs).flatten).length ≤ 20 := by
        rw [← Fo.prs_sub his]
        exact Nat.le_trans f.prs_len hn
      obtain ⟨e2, hl⟩ := ext_loop (cs := csK k) (some f.v) f.sub [] none (fun g hg m => by
        obtain ⟨a, b, c⟩ := Fo.sub_lt h g hg
        exact compared_ok' k g m a (by omega) (by omega)) (by rw [List.length_nil]; omega)
      rw [List.nil_append, ← Fo.prs_sub his] at hl
      have hl : forL (gVar 2) (extD (csK k)) (f.sub.map Fo.v) [some f.v, some (.obj 0), none] [Cell.lst []] = some (.nx [some f.v, some (.obj 0), e2], [.lst (f.prs.map pv)]) := hl
      have run : B_compared_in (k + 1) [f.v] [] = some (.ok (.obj 0), [.lst (f.prs.map pv)]) := by
        rw [B_step]
        simp [bodyD, startZ, i0, hw, hs, hl]
      refine fresh_val run hcl rfl ?_
      have := cnv_pvs m.length ([.lst (f.prs.map pv)] : Mem) 26 (L := f.prs) (fun p hp => (Fo.prs_ok h p hp).2)
      show (mapO (cnv [] m.length [Cell.lst (f.prs.map pv)] 29) (f.prs.map pv)).map Vl.lst = _
      rw [this]
      rfl
theorem comp_call {f : Fo} (h : f.Ok) (hn : f.n ≤ 10) (m : Mem) : h_compared_in_1 [f.v] [] m = some (.ok (.lst (f.prs.map pv)), m) := compared_ok' 40 f m h (by omega) (by have := (Fo.dp_le h).1; omega)
/-! the law's pairs -/
def lpD (cs : List Vl → List Vl → Mem → Option (R Vl × Mem)) : DS := dAsg 1 (d2 addA (dVar 1) (dCall 1 0 cs (dCons (dVar 2) (fun _ m => some (.ok [], m))) dNone))
theorem addA_lsts {a b : List Vl} {m : Mem} (h : a.length + b.length ≤ sizeLine) : addA (.lst a) (.lst b) m = some (.lst (a ++ b), m) := by
  have e : addL (.lst a) (.lst b) m = some (.lst (a ++ b), m) := by
    show (if a.length + b.length ≤ sizeLine then some (Vl.lst (a ++ b), m) else none) = _
    rw [if_pos h]
  show (match addL (.lst a) (.lst b) m with
    | some r => some r
    | none => addT (.lst a) (.lst b) m) = _
  rw [e]
theorem lp_loop {cs : List Vl → List Vl → Mem → Option (R Vl × Mem)} {m : Mem} (e0 : Option Vl) : ∀ (fs : List Fo) (L : List (Str × Vl)) (e2 : Option Vl), (∀ f ∈ fs, cs [f.v] [] m = some (.ok (.lst (f.prs.map pv)), m)) → L.length + ((fs.map Fo.prs).flatten).length ≤ 1000 → ∃ e2', forL (gVar 2) (lpD cs) (fs.map Fo.v) [e0, some (.lst (L.map pv)), e2] m = some (.nx [e0, some (.lst ((L ++ (fs.map Fo.prs).flatten).map pv)), e2'], m)
  | [], L, e2, h, hl => ⟨e2, by simp [forL]⟩
  | f :: fs, L, e2, h, hl => by
    simp only [List.map_cons, List.flatten_cons, List.length_append] at hl
    obtain ⟨e2', ih⟩ := lp_loop e0 fs (L ++ f.prs) (some f.v) (fun g hg => h g (List.mem_cons_of_mem _ hg)) (by rw [List.length_append]; omega)
    refine ⟨e2', ?_⟩
    have hc := h f (List.mem_cons_self ..)
    have he := addA_lsts (a := L.map pv) (b := f.prs.map pv) (m := m) (by rw [List.length_map, List.length_map]; exact le_size (by omega))
    have step : lpD cs [e0, some (.lst (L.map pv)), some f.v] m = some (.nx [e0, some (.lst ((L ++ f.prs).map pv)), some f.v], m) := by
      simp [lpD, hc, he]
    rw [List.map_cons]
    unfold forL
    simp only [gVar_ap]
    show (match lpD cs [e0, some (.lst (L.map pv)), some f.v] m with
      | some (.nx env2, m2) => forL (gVar 2) (lpD cs) (fs.map Fo.v) env2 m2
      | some (.ct env2, m2) => forL (gVar 2) (lpD cs) (fs.map Fo.v) env2 m2
      | some (.bk env2, m2) => some (.nx env2, m2)
      | r => r) = _
    rw [step]
    dsimp only
    rw [ih]
    simp
def lpK (k : Nat) : List Vl → List Vl → Mem → Option (R Vl × Mem) := fun xs ys => B_law_pairs k (pickL [.a 0] xs [] [] ys)
theorem P_step (k : Nat) : B_law_pairs (k + 1) = bodyD 3 (dSeq (dIfS (b2 eqF (d2 ixA (dVar 0) (dC (.int 0))) (dC (.str "is")))
  (dRet (dFrz (dLst (dCons (dTup (dCons (d2 ixA (dVar 0) (dC (.int 1))) (dCons (d2 ixA (dVar 0) (dC (.int 2))) (fun _ m => some (.ok [], m))))) (fun _ m => some (.ok [], m))))))
  dNil)
  (dSeq (dAsg 1 (dFrz (dLst (fun _ m => some (.ok [], m)))))
  (dSeq (dFor (iSeqD (dSl (dVar 0) (dPart (dC (.int 1))) (fun _ m => some (.ok none, m)))) (gVar 2) (lpD (lpK k)))
  (dRet (dVar 1))))) := rfl
theorem pairs_ok : ∀ (k : Nat) (f : Fo) (m : Mem), f.Ok → f.n ≤ 20 → f.dp ≤ k → lpK k [f.v] [] m = some (.ok (.lst (f.prs.map pv)), m)
  | 0, f, m, h, hn, hk => by cases f <;> cases hk
  | k + 1, f, m, h, hn, hk => by
    show B_law_pairs (k + 1) [f.v] m = _
    cases his : f.isIs with
    | true =>
      obtain ⟨w, t, rfl⟩ : ∃ w t, f = .is w t := by
        cases f <;> first | (cases his; done) | exact ⟨_, _, rfl⟩
      have i0 : ixA (Fo.is w t).v (.int 0) m = some (.str "is", m) := ixW (.is w t) m
      have i1 : ixA (Fo.is w t).v (.int 1) m = some (.str w, m) := ixA_tup (atI_of (by decide) rfl)
      have i2 : ixA (Fo.is w t).v (.int 2) m = some (t, m) := ixA_tup (atI_of (by decide) rfl)
      rw [P_step]
      simp [bodyD, startZ, i0, i1, i2, Fo.prs, pv]
    | false =>
      have hv := Fo.v_sub his
      have hw := wd_is f
      rw [his] at hw
      have i0 := ixW f m
      have hs : slD f.v (some 1) none m = some (.tup (f.sub.map Fo.v), m) := by
        rw [hv]
        exact sl_tail _ _ _
      have hlen : ((f.sub.map Fo.prs).flatten).length ≤ 20 := by
        rw [← Fo.prs_sub his]
        exact Nat.le_trans f.prs_len hn
      obtain ⟨e2, hl⟩ := lp_loop (cs := lpK k) (m := m) (some f.v) f.sub [] none (fun g hg => by
        obtain ⟨a, b, c⟩ := Fo.sub_lt h g hg
        exact pairs_ok k g m a (by omega) (by omega)) (by rw [List.length_nil]; omega)
      rw [List.nil_append, ← Fo.prs_sub his] at hl
      have hl : forL (gVar 2) (lpD (lpK k)) (f.sub.map Fo.v) [some f.v, some (.lst []), none] m = some (.nx [some f.v, some (.lst (f.prs.map pv)), e2], m) := hl
      rw [P_step]
      simp [bodyD, startZ, i0, hw, hs, hl]
theorem pairs_call {f : Fo} (h : f.Ok) (hn : f.n ≤ 10) (m : Mem) : c_law_pairs_1 [f.v] [] m = some (.ok (.lst (f.prs.map pv)), m) := pairs_ok 40 f m h (by omega) (by have := (Fo.dp_le h).1; omega)
theorem appB (L : List Vl) (y : Vl) (h : L.length < 1000) : appH L [y] = some (.non, L ++ [y]) := app_i L y h
theorem once_mem : ∀ {l acc : List Vl} {x : Vl}, x ∈ onceL acc l → x ∈ acc ∨ x ∈ l
  | [], acc, x, h => .inl h
  | y :: l, acc, x, h => by
    unfold onceL at h
    split at h
    · rcases once_mem h with h | h
      · exact .inl h
      · exact .inr (List.mem_cons_of_mem _ h)
    · rcases once_mem h with h | h
      · rcases List.mem_append.mp h with h | h
        · exact .inl h
        · rw [List.mem_singleton.mp h]
          exact .inr (List.mem_cons_self ..)
      · exact .inr (List.mem_cons_of_mem _ h)
theorem once_len : ∀ (l acc : List Vl), (onceL acc l).length ≤ acc.length + l.length
  | [], acc => Nat.le_refl _
  | y :: l, acc => by
    unfold onceL
    split
    · have := once_len l acc
      simp only [List.length_cons]
      omega
    · have := once_len l (acc ++ [y])
      simp only [List.length_cons, List.length_append, List.length_nil] at this ⊢
      omega
theorem meth0_fil {mn : Str} {g : FD} {v : Vl} {r : R Vl × Mem} {de : DE} {env : Ev} {m m1 : Mem} (hk : (mn == ("form" : Str)) = false) (hd : de env m = some (.ok (filV v), m1)) (hg : g [filV v] m1 = some r) : dMeth "Filter" mn 0 0 (fun xs ys => pickL [.a 0] xs [] [] ys) g de dNone dNone env m = some r := by
  have hc : (decide (("Filter" : Str) = "Filter") && (([("form", v)] : List (Str × Vl)).lookup mn).isNone) = true := by
    simp [List.lookup, hk]
  unfold dMeth
  simp only [hd, bindR_ok, insD_fil]
  rw [if_pos (by simp [List.lookup, hk])]
  simp only [bindR_ok, dNone_ap, List.length_nil, and_self, if_true]
  exact hg
theorem pv_sv {f : Fo} (h : f.Ok) : ∀ x ∈ f.prs.map pv, Sv x ∧ flatL x = none := fun x hx => by
  obtain ⟨p, hp, rfl⟩ := List.mem_map.mp hx
  obtain ⟨h1, h2⟩ := Fo.prs_ok h p hp
  exact ⟨sv_pv h1 h2, rfl⟩
def bpD : DS := dIfS (b2 (inA true) (d2 ixA (dVar 3) (dC (.int 1))) (dVar 2)) (dSeq (dDrop (dM "list" (lstM appH) (dVar 2) (dCons (d2 ixA (dVar 3) (dC (.int 1))) (fun _ m => some (.ok [], m))))) (dDrop (dM "list" (lstM appH) (dVar 1) (dCons (dVar 3) (fun _ m => some (.ok [], m)))))) dNil
theorem set_snd {α : Type} (m : List α) (x y z : α) : (m ++ [x, y]).set (m.length + 1) z = m ++ [x, z] := by
  rw [List.set_append_right _ _ (by omega)]
  simp
theorem bp_loop (e0 : Option Vl) : ∀ (l F : List (Str × Vl)) (e3 : Option Vl) (m0 : Mem), (∀ p ∈ l, Good p.2) → (∀ p ∈ F, Good p.2) → F.length + l.length ≤ 100 → ∃ (e3' : Option Vl) (F' : List (Str × Vl)), forL (gVar 3) bpD (l.map pv) [e0, some (.obj m0.length), some (.obj (m0.length + 1)), e3] (m0 ++ [.lst (F.map pv), .lst (F.map (·.2))]) = some (.nx [e0, some (.obj m0.length), some (.obj (m0.length + 1)), e3'], m0 ++ [.lst (F'.map pv), .lst (F'.map (·.2))]) ∧ F'.map (·.2) = onceL (F.map (·.2)) (l.map (·.2)) ∧ (∀ p ∈ F', Good p.2)
  | [], F, e3, m0, _, hF, _ => ⟨e3, F, rfl, rfl, hF⟩
  | p :: l, F, e3, m0, hl, hF, hz => by
    rw [List.length_cons] at hz
    have hx := hl p (List.mem_cons_self ..)
    have hA : (m0 ++ [Cell.lst (F.map pv), .lst (F.map (·.2))])[m0.length]? = some (.lst (F.map pv)) := by simp
    have hB : (m0 ++ [Cell.lst (F.map pv), .lst (F.map (·.2))])[m0.length + 1]? = some (.lst (F.map (·.2))) := by
      rw [List.getElem?_append_right (by omega)]
      simp
    have hi := notin_good hx (L := F.map (·.2)) (fun y hy => by
      obtain ⟨q, hq, rfl⟩ := List.mem_map.mp hy
      exact hF q hq) hB
    have ix : ∀ m, ixA (pv p) (.int 1) m = some (p.2, m) := fun m => ixA_tup (atI_of (by decide) rfl)
    have a1 := lstM_z hB (appB (F.map (·.2)) p.2 (by rw [List.length_map]; omega))
    have s1 : (m0 ++ [Cell.lst (F.map pv), .lst (F.map (·.2))]).set (m0.length + 1) (.lst (F.map (·.2) ++ [p.2])) = m0 ++ [Cell.lst (F.map pv), .lst ((F ++ [p]).map (·.2))] := by
      refine (set_snd m0 _ _ _).trans ?_
      simp
    rw [s1] at a1
    have hA2 : (m0 ++ [Cell.lst (F.map pv), .lst ((F ++ [p]).map (·.2))])[m0.length]? = some (.lst (F.map pv)) := by simp
    have a2 := lstM_z hA2 (appB (F.map pv) (pv p) (by rw [List.length_map]; omega))
    have s2 : (m0 ++ [Cell.lst (F.map pv), .lst ((F ++ [p]).map (·.2))]).set m0.length (.lst (F.map pv ++ [pv p])) = m0 ++ [Cell.lst ((F ++ [p]).map pv), .lst ((F ++ [p]).map (·.2))] := by simp
    rw [s2] at a2
    obtain ⟨F1, hF1, hg1, hlen1, step⟩ : ∃ F1 : List (Str × Vl), F1.map (·.2) = (if ((F.map (·.2)).any fun y => veq y p.2) = true then F.map (·.2) else F.map (·.2) ++ [p.2]) ∧ (∀ q ∈ F1, Good q.2) ∧ F1.length ≤ F.length + 1 ∧ bpD [e0, some (.obj m0.length), some (.obj (m0.length + 1)), some (pv p)] (m0 ++ [.lst (F.map pv), .lst (F.map (·.2))]) = some (.nx [e0, some (.obj m0.length), some (.obj (m0.length + 1)), some (pv p)], m0 ++ [.lst (F1.map pv), .lst (F1.map (·.2))]) := by
      cases h : ((F.map (·.2)).any fun y => veq y p.2)
      · refine ⟨F ++ [p], by simp, fun q hq => ?_, by simp, ?_⟩
        · rcases List.mem_append.mp hq with hq | hq
          · exact hF q hq
          · rw [List.mem_singleton.mp hq]
            exact hx
        · simp only [bpD, dIfS_ap, b2_ap, d2_ap, dVar_z, dVar_s, dC_ap, bindR_ok, ix, okR_s, hi, h, Bool.not_false, bindS_ok, if_true, dSeq_ap, dDrop_ap, dM_ap, tyM_obj hB, dCons_ap, a1, thenS_nx, tyM_obj hA2, a2]
      · refine ⟨F, by simp, hF, by omega, ?_⟩
        simp only [bpD, dIfS_ap, b2_ap, d2_ap, dVar_z, dVar_s, dC_ap, bindR_ok, ix, okR_s, hi, h, Bool.not_true, bindS_ok, Bool.false_eq_true, if_false, dNil_ap]
    obtain ⟨e3', F', ih, hF', hg'⟩ := bp_loop e0 l F1 (some (pv p)) m0 (fun q hq => hl q (List.mem_cons_of_mem _ hq)) hg1 (by omega)
    refine ⟨e3', F', ?_, ?_, hg'⟩
    · rw [List.map_cons]
      unfold forL
      simp only [gVar_ap]
      show (match bpD [e0, some (.obj m0.length), some (.obj (m0.length + 1)), some (pv p)] (m0 ++ [.lst (F.map pv), .lst (F.map (·.2))]) with
        | some (.nx env2, m2) => forL (gVar 3) bpD (l.map pv) env2 m2
        | some (.ct env2, m2) => forL (gVar 3) bpD (l.map pv) env2 m2
        | some (.bk env2, m2) => some (.nx env2, m2)
        | r => r) = _
      rw [step]
      exact ih
    · rw [hF', hF1]
      show _ = (if ((F.map (·.2)).any fun y => veq y p.2) = true then onceL (F.map (·.2)) (l.map (·.2)) else onceL (F.map (·.2) ++ [p.2]) (l.map (·.2)))
      split <;> rfl
theorem bare_ok {f : Fo} (h : f.Ok) (hn : f.n ≤ 10) (m : Mem) : ∃ F : List (Str × Vl), G_Filter_bare_pairs [filV f.v] m = some (.ok (.obj m.length), m ++ [.lst (F.map pv), .lst (F.map (·.2))]) ∧ F.map (·.2) = onceL [] (f.prs.map (·.2)) ∧ ∀ p ∈ F, Good p.2 := by
  have hl := f.prs_len
  obtain ⟨e3, F, hloop, hF, hg⟩ := bp_loop (some (filV f.v)) f.prs [] none m (fun p hp => (Fo.prs_ok h p hp).2) (fun x hx => nomatch hx) (by rw [List.length_nil]; omega)
  have hloop : forL (gVar 3) bpD (f.prs.map pv) [some (filV f.v), some (.obj m.length), some (.obj (m.length + 1)), none] (m ++ [.lst [], .lst []]) = _ := hloop
  have hc := comp_call h hn (m ++ [Cell.lst [], .lst []])
  have f1 : ∀ (e : Ev) m, dFld ["Filter"] "form" (dVar 0) (some (filV f.v) :: e) m = some (.ok f.v, m) := fun e m => rfl
  refine ⟨F, ?_, hF, hg⟩
  show bodyD 4 (dSeq (dPar 1 2 (dCons (dNew (dLst (fun _ m => some (.ok [], m)))) (dCons (dNew (dLst (fun _ m => some (.ok [], m)))) (fun _ m => some (.ok [], m))))) (dSeq (dFor (iSeqD (dCall 1 0 h_compared_in_1 (dCons (dFld ["Filter"] "form" (dVar 0)) (fun _ m => some (.ok [], m))) dNone)) (gVar 3) bpD) (dRet (dVar 1)))) [filV f.v] m = _
  simp [bodyD, startZ, dPar, -dFld_ap, f1, hc, hloop]
def isStr : Vl → Bool
  | .str _ => true
  | _ => false
theorem lcW_filt {g : DGc} {de : DE} {dt : DT} {env : Ev} {n : Nat} {m : Mem} {ys : List Vl} {p : Vl → Bool} {f : Vl → Vl} (hm : m[n]? = some (.lst ys)) (h : ∀ x ∈ ys, ∃ env1, g x env = some env1 ∧ dt env1 m = some (.ok (p x), m) ∧ de env1 m = some (.ok (f x), m)) :
    ∀ k i, k + i = ys.length → lcW g dt de env (cellW n) k i m = some (((ys.drop i).filter p).map f, m)
  | 0, i, hk => by
    unfold lcW cellW
    rw [hm]
    simp only [show ys[i]? = none from List.getElem?_eq_none_iff.mpr (by omega)]
    rw [List.drop_of_length_le (by omega)]
    rfl
  | k + 1, i, hk => by
    have hi : i < ys.length := by omega
    obtain ⟨env1, h1, h2, h3⟩ := h ys[i] (List.getElem_mem hi)
    have ih := lcW_filt hm h k (i + 1) (by omega)
    unfold lcW
    have hw : cellW n i m = some (some ys[i]) := by
      unfold cellW
      rw [hm]
      simp only [List.getElem?_eq_getElem hi]
    rw [hw]
    rw [List.drop_eq_getElem_cons hi, List.filter_cons]
    cases hp : p ys[i]
    · simp only [h1, h2, hp, ih, Bool.false_eq_true, if_false]
    · simp only [h1, h2, hp, h3, ih, if_true, List.map_cons]
theorem isi_good {t : Vl} (h : Good t) (m : Mem) : isiF csZ (kitT kitL) [t, .ty "str"] m = some (.bl (isStr t), m) := by cases h <;> rfl
theorem parameters_ok {f : Fo} (h : f.Ok) (hn : f.n ≤ 10) (m : Mem) : ∃ a b, G_Filter_parameters [filV f.v] m = some (.ok (.lst ((onceL [] (f.prs.map (·.2))).filter isStr)), m ++ [a, b]) := by
  obtain ⟨F, hb, hF, hg⟩ := bare_ok h hn m
  have hl := f.prs_len
  have hFl : F.length ≤ 10 := by
    have := congrArg List.length hF
    rw [List.length_map] at this
    have := once_len (f.prs.map (·.2)) []
    rw [List.length_map, List.length_nil] at this
    omega
  have hb' := meth0_fil (mn := "bare_pairs") (g := G_Filter_bare_pairs) (v := f.v) (de := dVar 0) (env := [some (filV f.v), none, none]) (m := m) (by decide +kernel) rfl hb
  have hm : (m ++ [Cell.lst (F.map pv), .lst (F.map (·.2))])[m.length]? = some (.lst (F.map pv)) := by simp
  have hlc := lcW_filt (g := gcTup (gcsCons (gcVar 1) (gcsCons (gcVar 2) gcsNil))) (dt := tTr (dB (isiF csZ (kitT kitL)) (dCons (dVar 2) (dCons (dC (.ty "str")) (fun _ m => some (.ok [], m)))))) (de := dVar 2) (env := [some (filV f.v), none, none]) (p := fun x => match x with
      | .tup [_, t] => isStr t
      | _ => false) (f := fun x => match x with
      | .tup [_, t] => t
      | _ => .non) hm (fun x hx => by
    obtain ⟨p, hp, rfl⟩ := List.mem_map.mp hx
    refine ⟨[some (filV f.v), some (.str p.1), some p.2], rfl, ?_, rfl⟩
    simp [isi_good (hg p hp)]
    rfl) F.length 0 (by rw [List.length_map]; rfl)
  have hout : (((F.map pv).drop 0).filter fun x => match x with
      | .tup [_, t] => isStr t
      | _ => false).map (fun x => match x with
      | .tup [_, t] => t
      | _ => .non) = (onceL [] (f.prs.map (·.2))).filter isStr := by
    rw [← hF, List.drop_zero, List.filter_map, List.filter_map, List.map_map]
    rfl
  rw [hout] at hlc
  refine ⟨.lst (F.map pv), .lst (F.map (·.2)), ?_⟩
  have hw : wkOf (m ++ [Cell.lst (F.map pv), .lst (F.map (·.2))]) (.obj m.length) = some (cellW m.length, F.length) := by
    unfold wkOf
    simp only [hm, List.length_map]
  have sz : F.length ≤ sizeLine := le_size (by omega)
  have run : dLcW (wLst (dMeth "Filter" "bare_pairs" 0 0 (fun xs ys => pickL [.a 0] xs [] [] ys) G_Filter_bare_pairs (dVar 0) dNone dNone)) (gcTup (gcsCons (gcVar 1) (gcsCons (gcVar 2) gcsNil))) (tTr (dB (isiF csZ (kitT kitL)) (dCons (dVar 2) (dCons (dC (.ty "str")) (fun _ m => some (.ok [], m)))))) (dVar 2) [1, 2] [some (filV f.v), none, none] m = some (.ok ((onceL [] (f.prs.map (·.2))).filter isStr), m ++ [Cell.lst (F.map pv), .lst (F.map (·.2))]) := by
    rw [dLcW_ap, wLst_ap, hb', bindR_ok, hw]
    dsimp only
    rw [bindR_ok, if_pos sz]
    show okR (lcW _ _ _ [some (filV f.v), none, none] (cellW m.length) F.length 0 _) = _
    rw [hlc]
    rfl
  show bodyD 3 (dRet (dFrz (dLcW (wLst (dMeth "Filter" "bare_pairs" 0 0 (fun xs ys => pickL [.a 0] xs [] [] ys) G_Filter_bare_pairs (dVar 0) dNone dNone)) (gcTup (gcsCons (gcVar 1) (gcsCons (gcVar 2) gcsNil))) (tTr (dB (isiF csZ (kitT kitL)) (dCons (dVar 2) (dCons (dC (.ty "str")) (fun _ m => some (.ok [], m)))))) (dVar 2) [1, 2]))) [filV f.v] m = _
  unfold bodyD
  rw [show startZ 3 [filV f.v] = [some (filV f.v), none, none] from rfl, dRet_ap, dFrz_ap, run, bindR_ok, bindS_ok]
theorem veq_str {x y : Vl} (hx : Good x) (hy : Good y) (h : veq y x = true) : isStr y = isStr x := by
  cases hx with
  | int i _ _ => cases hy with
    | int j _ _ => rfl
    | str s _ => cases h
  | str s _ => cases hy with
    | int j _ _ => cases h
    | str s' _ => rfl
theorem any_str {x : Vl} (hx : Good x) (h : isStr x = true) : ∀ {acc : List Vl}, (∀ y ∈ acc, Good y) → ((acc.filter isStr).any fun y => veq y x) = acc.any fun y => veq y x
  | [], _ => rfl
  | y :: acc, ha => by
    have ih := any_str hx h fun z hz => ha z (List.mem_cons_of_mem _ hz)
    rw [List.filter_cons, List.any_cons]
    cases hy : isStr y
    · have : veq y x = false := by
        rw [Bool.eq_false_iff]
        intro e
        have := veq_str hx (ha y (List.mem_cons_self ..)) e
        rw [hy, h] at this
        cases this
      simp only [Bool.false_eq_true, if_false, ih, this, Bool.false_or]
    · simp only [if_true, List.any_cons, ih]
theorem once_cons (acc l : List Vl) (x : Vl) : onceL acc (x :: l) = if (acc.any fun y => veq y x) = true then onceL acc l else onceL (acc ++ [x]) l := rfl
theorem once_filter : ∀ (l acc : List Vl), (∀ x ∈ l, Good x) → (∀ x ∈ acc, Good x) → (onceL acc l).filter isStr = onceL (acc.filter isStr) (l.filter isStr)
  | [], acc, _, _ => rfl
  | x :: l, acc, hl, ha => by
    have hx := hl x (List.mem_cons_self ..)
    have hl' := fun y hy => hl y (List.mem_cons_of_mem x hy)
    have ha' : ∀ y ∈ acc ++ [x], Good y := fun y hy => by
      rcases List.mem_append.mp hy with hy | hy
      · exact ha y hy
      · rw [List.mem_singleton.mp hy]
        exact hx
    have i1 := once_filter l acc hl' ha
    have i2 := once_filter l (acc ++ [x]) hl' ha'
    rw [List.filter_cons]
    cases hs : isStr x
    · rw [List.filter_append, List.filter_cons, hs] at i2
      simp only [Bool.false_eq_true, if_false, List.filter_nil, List.append_nil] at i2 ⊢
      rw [once_cons]
      split
      · exact i1
      · exact i2
    · rw [List.filter_append, List.filter_cons, hs] at i2
      simp only [if_true, List.filter_nil] at i2 ⊢
      rw [once_cons, once_cons, any_str hx hs ha]
      split
      · exact i1
      · exact i2
/-! what a form takes -/
def tkV (t : Vl) (i : Int) : Bool := match t with
  | .int j => decide (j = i)
  | _ => false
def Fo.tk (a b : Int) : Fo → Bool
  | .all => true
  | .is w t => tkV t (if (w == "a") = true then a else b)
  | .no f => !f.tk a b
  | .an f g => f.tk a b && g.tk a b
  | .or f g => f.tk a b || g.tk a b
/-- without names -/
def Fo.Cl : Fo → Prop
  | .all => True
  | .is _ t => isStr t = false
  | .no f => f.Cl
  | .an f g => f.Cl ∧ g.Cl
  | .or f g => f.Cl ∧ g.Cl
def Fo.nms (f : Fo) : List Vl := (f.prs.map (·.2)).filter isStr
theorem Fo.cl_of : ∀ {f : Fo}, f.nms = [] → f.Cl
  | .all, _ => trivial
  | .is w t, h => by
    show isStr t = false
    have h : [t].filter isStr = [] := h
    rw [List.filter_cons] at h
    cases e : isStr t
    · rfl
    · rw [e] at h
      cases h
  | .no f, h => Fo.cl_of (f := f) h
  | .an f g, h => by
    have h : ((f.prs ++ g.prs).map (·.2)).filter isStr = [] := h
    rw [List.map_append, List.filter_append, List.append_eq_nil_iff] at h
    exact ⟨Fo.cl_of h.1, Fo.cl_of h.2⟩
  | .or f g, h => by
    have h : ((f.prs ++ g.prs).map (·.2)).filter isStr = [] := h
    rw [List.map_append, List.filter_append, List.append_eq_nil_iff] at h
    exact ⟨Fo.cl_of h.1, Fo.cl_of h.2⟩
theorem wds {a b : Str} (h : (a == b) = false) : ¬ (a = b) := by
  rw [beq_eq_false_iff_ne] at h
  exact h
theorem lits : (("all" : Str) == "is") = false ∧ (("all" : Str) == "not") = false ∧ (("all" : Str) == "and") = false ∧ (("all" : Str) == "or") = false ∧ (("not" : Str) == "is") = false ∧ (("and" : Str) == "is") = false ∧ (("and" : Str) == "not") = false ∧ (("or" : Str) == "is") = false ∧ (("or" : Str) == "not") = false ∧ (("or" : Str) == "and") = false ∧ (("or" : Str) == "all") = false := by decide +kernel
theorem pick3 (x y z : Vl) : pickL [.a 0, .a 1, .a 2] [x, y, z] [] [] [] = [x, y, z] := rfl
theorem pick2 (x y : Vl) : pickL [.a 0, .a 1] [x, y] [] [] [] = [x, y] := rfl
theorem ix0 {x : Vl} {xs : List Vl} (m : Mem) : ixA (.tup (x :: xs)) (.int 0) m = some (x, m) := ixA_tup (atI_of (by decide) rfl)
theorem ix1 {x y : Vl} {xs : List Vl} (m : Mem) : ixA (.tup (x :: y :: xs)) (.int 1) m = some (y, m) := ixA_tup (atI_of (by decide) rfl)
theorem ix2 {x y z : Vl} {xs : List Vl} (m : Mem) : ixA (.tup (x :: y :: z :: xs)) (.int 2) m = some (z, m) := ixA_tup (atI_of (by decide) rfl)
theorem int_of {t : Vl} (h : Good t) (hs : isStr t = false) : ∃ j, t = .int j := by
  cases h with
  | int i _ _ => exact ⟨i, rfl⟩
  | str s _ => cases hs
theorem takes_ok (a b : Int) : ∀ (k : Nat) (f : Fo) (m : Mem), f.Ok → f.Cl → f.dp ≤ k → B_takes_cells k [f.v, .int a, .int b] m = some (.ok (.bl (f.tk a b)), m)
  | 0, f, m, h, hc, hk => by cases f <;> cases hk
  | k + 1, f, m, h, hc, hk => by
    obtain ⟨l1, l2, l3, l4, l5, l6, l7, l8, l9, l10, l11⟩ := lits
    show bodyD 4 (D_takes_cells fun xs ys => B_takes_cells k (pickL [.a 0, .a 1, .a 2] xs [] [] ys)) [f.v, .int a, .int b] m = _
    cases f with
    | all => simp [bodyD, startZ, D_takes_cells, Fo.v, ix0, l1, l2, l3, l4, Fo.tk]
    | is w t =>
      obtain ⟨j, rfl⟩ := int_of h.2 hc
      cases hw : (w == "a") <;> simp [bodyD, startZ, D_takes_cells, Fo.v, ix0, ix1, ix2, hw, Fo.tk, tkV]
    | no f =>
      have ih := takes_ok a b k f m h.1 hc (by have : (Fo.no f).dp = f.dp + 1 := rfl; omega)
      simp [bodyD, startZ, D_takes_cells, Fo.v, ix0, ix1, l5, Fo.tk, pick3, ih]
    | an f g =>
      have d : (Fo.an f g).dp = max f.dp g.dp + 1 := rfl
      have ih := takes_ok a b k f m h.1 hc.1 (by omega)
      have ih' := takes_ok a b k g m h.2 hc.2 (by omega)
      cases hf : f.tk a b <;> simp [bodyD, startZ, D_takes_cells, Fo.v, ix0, ix1, ix2, l6, l7, Fo.tk, pick3, ih, ih', hf]
    | or f g =>
      have d : (Fo.or f g).dp = max f.dp g.dp + 1 := rfl
      have ih := takes_ok a b k f m h.1 hc.1 (by omega)
      have ih' := takes_ok a b k g m h.2 hc.2 (by omega)
      cases hf : f.tk a b <;> simp [bodyD, startZ, D_takes_cells, Fo.v, ix0, ix1, ix2, l8, l9, l10, Fo.tk, pick3, ih, ih', hf]
theorem lawtakes_ok (q a b : Int) : ∀ (k : Nat) (f : Fo) (m : Mem), f.Ok → f.Cl → f.dp ≤ k → B_law_takes k [f.v, .tup [.int q, .int a, .int b]] m = some (.ok (.bl (f.tk a b)), m)
  | 0, f, m, h, hc, hk => by cases f <;> cases hk
  | k + 1, f, m, h, hc, hk => by
    obtain ⟨l1, l2, l3, l4, l5, l6, l7, l8, l9, l10, l11⟩ := lits
    show bodyD 2 (D_law_takes fun xs ys => B_law_takes k (pickL [.a 0, .a 1] xs [] [] ys)) [f.v, .tup [.int q, .int a, .int b]] m = _
    cases f with
    | all => simp [bodyD, startZ, D_law_takes, Fo.v, ix0, l1, l2, l3, l4, Fo.tk]
    | is w t =>
      obtain ⟨j, rfl⟩ := int_of h.2 hc
      have e1 : decide (a = j) = decide (j = a) := by rw [decide_eq_decide]; exact eq_comm
      have e2 : decide (b = j) = decide (j = b) := by rw [decide_eq_decide]; exact eq_comm
      cases hw : (w == "a") <;> simp [bodyD, startZ, D_law_takes, Fo.v, ix0, ix1, ix2, hw, Fo.tk, tkV, e1, e2]
    | no f =>
      have ih := lawtakes_ok q a b k f m h.1 hc (by have : (Fo.no f).dp = f.dp + 1 := rfl; omega)
      simp [bodyD, startZ, D_law_takes, Fo.v, ix0, ix1, l5, Fo.tk, pick2, ih]
    | an f g =>
      have d : (Fo.an f g).dp = max f.dp g.dp + 1 := rfl
      have ih := lawtakes_ok q a b k f m h.1 hc.1 (by omega)
      have ih' := lawtakes_ok q a b k g m h.2 hc.2 (by omega)
      cases hf : f.tk a b <;> simp [bodyD, startZ, D_law_takes, Fo.v, ix0, ix1, ix2, l6, l7, Fo.tk, pick2, ih, ih', hf]
    | or f g =>
      have d : (Fo.or f g).dp = max f.dp g.dp + 1 := rfl
      have ih := lawtakes_ok q a b k f m h.1 hc.1 (by omega)
      have ih' := lawtakes_ok q a b k g m h.2 hc.2 (by omega)
      cases hf : f.tk a b <;> simp [bodyD, startZ, D_law_takes, Fo.v, ix0, ix1, ix2, l8, l9, l10, l11, Fo.tk, pick2, ih, ih', hf]
theorem nms_len (f : Fo) : f.nms.length ≤ f.n := by
  have := List.length_filter_le isStr (f.prs.map (·.2))
  have h3 := f.prs_len
  rw [List.length_map] at this
  unfold Fo.nms
  omega
/-! parameters: the first is the first name -/
theorem once_app : ∀ (l acc : List Vl), ∃ r, onceL acc l = acc ++ r
  | [], acc => ⟨[], (List.append_nil _).symm⟩
  | x :: l, acc => by
    rw [once_cons]
    split
    · exact once_app l acc
    · obtain ⟨r, h⟩ := once_app l (acc ++ [x])
      exact ⟨x :: r, by rw [h, List.append_assoc]; rfl⟩
theorem once_head (x : Vl) (l : List Vl) : ∃ r, onceL [] (x :: l) = x :: r := by
  rw [once_cons]
  exact once_app l [x]
theorem snd_good {f : Fo} (h : f.Ok) : ∀ x ∈ f.prs.map (·.2), Good x := fun x hx => by
  obtain ⟨p, hp, rfl⟩ := List.mem_map.mp hx
  exact (Fo.prs_ok h p hp).2
theorem nms_good {f : Fo} (h : f.Ok) : ∀ x ∈ f.nms, Good x := fun x hx => snd_good h x (List.mem_filter.mp hx).1
theorem prm_i {f : Fo} (h : f.Ok) (hn : f.n ≤ 10) (m : Mem) : ∃ ext : Mem, G_Filter_parameters [filV f.v] m = some (.ok (.lst (onceL [] f.nms)), m ++ ext) := by
  obtain ⟨a, b, e⟩ := parameters_ok h hn m
  rw [once_filter _ [] (snd_good h) (fun x hx => nomatch hx)] at e
  exact ⟨_, e⟩
theorem look_free {f : Fo} (h : f.Ok) (hn : f.n ≤ 10) (hc : f.nms = []) (m : Mem) : ∃ ext : Mem, G_Filter_look_bound [filV f.v] m = some (.ok .non, m ++ ext) := by
  obtain ⟨ext, e⟩ := prm_i h hn m
  rw [hc] at e
  have e : G_Filter_parameters [filV f.v] m = some (.ok (.lst []), m ++ ext) := e
  have q := meth0_fil (mn := "parameters") (g := G_Filter_parameters) (v := f.v) (de := dVar 0) (env := [some (filV f.v), none]) (m := m) (by decide +kernel) rfl e
  refine ⟨ext, ?_⟩
  show bodyD 2 D_Filter_look_bound [filV f.v] m = _
  simp [bodyD, startZ, D_Filter_look_bound, q, lenF_lst]
/-! rows -/
theorem isrow_three {x y z : Vl} {p q r : Bool} {m : Mem} (hx : c_is_value_1 [x] [] m = some (.ok (.bl p), m)) (hy : c_is_value_1 [y] [] m = some (.ok (.bl q), m)) (hz : c_is_value_1 [z] [] m = some (.ok (.bl r), m)) : c_is_row_1 [.tup [x, y, z]] [] m = some (.ok (.bl (p && (q && r))), m) := by
  have hi : isiF csZ (kitT kitL) [.tup [x, y, z], .ty "tuple"] m = some (.bl true, m) := rfl
  have hq : quant (fun l => l.all id) [.lst [.bl p, .bl q, .bl r]] m = some (.bl (p && (q && r)), m) := by
    show some (Vl.bl (([p, q, r] : List Bool).all id), m) = _
    simp
  have z3 : (3 : Nat) ≤ sizeLine := le_size (by decide)
  show bodyD 2 D_is_row [.tup [x, y, z]] m = _
  simp [bodyD, startZ, D_is_row, hi, lenF_tup, wipeE, lcZ, dYes, hx, hy, hz, hq]
theorem isrow_len {xs : List Vl} (h : xs.length ≠ 3) (m : Mem) : c_is_row_1 [.tup xs] [] m = some (.ok (.bl false), m) := by
  have hi : isiF csZ (kitT kitL) [.tup xs, .ty "tuple"] m = some (.bl true, m) := rfl
  have hl : ¬ ((xs.length : Int) = 3) := by omega
  show bodyD 2 D_is_row [.tup xs] m = _
  simp [bodyD, startZ, D_is_row, hi, lenF_tup, hl]
theorem isrow_other {u : Vl} {m : Mem} (hi : isiF csZ (kitT kitL) [u, .ty "tuple"] m = some (.bl false, m)) : c_is_row_1 [u] [] m = some (.ok (.bl false), m) := by
  show bodyD 2 D_is_row [u] m = _
  simp [bodyD, startZ, D_is_row, hi]
theorem isval_int {i : Int} (h0 : 0 ≤ i) (h1 : i ≤ 999) (m : Mem) : c_is_value_1 [.int i] [] m = some (.ok (.bl true), m) := by
  rw [value_int, decide_eq_true h0, decide_eq_true h1]
  rfl
structure Row (q a b : Int) : Prop where
  q : 0 ≤ q ∧ q ≤ 999
  a : 0 ≤ a ∧ a ≤ 999
  b : 0 ≤ b ∧ b ≤ 999
theorem isrow_row {q a b : Int} (h : Row q a b) (m : Mem) : c_is_row_1 [.tup [.int q, .int a, .int b]] [] m = some (.ok (.bl true), m) := isrow_three (isval_int h.q.1 h.q.2 m) (isval_int h.a.1 h.a.2 m) (isval_int h.b.1 h.b.2 m)
/-! a filter is asked -/
theorem takes_meth {f : Fo} (h : f.Ok) (hn : f.n ≤ 10) (hc : f.nms = []) {q a b : Int} {m : Mem} : dMeth "Filter" "takes" 2 0 (fun xs ys => pickL [.a 0, .a 1, .a 2] xs [] [] ys) G_Filter_takes (dVar 0) (dCons (d2 ixA (dVar 1) (dC (.int 1))) (dCons (d2 ixA (dVar 1) (dC (.int 2))) (fun _ m => some (.ok [], m)))) dNone [some (filV f.v), some (.tup [.int q, .int a, .int b])] m = some (.ok (.bl (f.tk a b)), m) := by
  have hk : (("takes" : Str) == "form") = false := by decide +kernel
  have run := takes_ok a b 40 f m h (Fo.cl_of hc) (by have := (Fo.dp_le h).1; omega)
  have run : c_takes_cells_3 [f.v, .int a, .int b] [] m = some (.ok (.bl (f.tk a b)), m) := run
  have f1 : ∀ (e : Ev) m, dFld ["Filter"] "form" (dVar 0) (some (filV f.v) :: e) m = some (.ok f.v, m) := fun e m => rfl
  have hG : G_Filter_takes [filV f.v, .int a, .int b] m = some (.ok (.bl (f.tk a b)), m) := by
    show bodyD 3 D_Filter_takes [filV f.v, .int a, .int b] m = _
    simp [bodyD, startZ, D_Filter_takes, -dFld_ap, f1, run]
  unfold dMeth
  simp only [dVar_z, bindR_ok, insD_fil]
  rw [if_pos (by simp [List.lookup, hk])]
  simp only [dCons_ap, d2_ap, dVar_s, dVar_z, dC_ap, bindR_ok, ix1, ix2, okR_s, dNone_ap, List.length_cons, List.length_nil, and_self, if_true]
  exact hG
theorem call_row {f : Fo} (h : f.Ok) (hn : f.n ≤ 10) (hc : f.nms = []) {q a b : Int} (hr : Row q a b) (m : Mem) : ∃ ext : Mem, G_Filter_call [filV f.v, .tup [.int q, .int a, .int b]] m = some (.ok (.bl (f.tk a b)), m ++ ext) := by
  obtain ⟨ext, e⟩ := look_free h hn hc m
  have q1 := meth0_fil (mn := "look_bound") (g := G_Filter_look_bound) (v := f.v) (de := dVar 0) (env := [some (filV f.v), some (.tup [.int q, .int a, .int b])]) (m := m) (by decide +kernel) rfl e
  have q2 := takes_meth h hn hc (q := q) (a := a) (b := b) (m := m ++ ext)
  have q3 := isrow_row hr m
  refine ⟨ext, ?_⟩
  show bodyD 2 D_Filter_call [filV f.v, .tup [.int q, .int a, .int b]] m = _
  simp [bodyD, startZ, D_Filter_call, q1, q2, q3]
theorem notin_sv {x : Vl} (hx : Sv x) (hf : flatL x = none) {L : List Vl} (hL : ∀ y ∈ L, Sv y) {m : Mem} {n : Nat} (hn : m[n]? = some (.lst L)) : inA true x (.obj n) m = some (.bl (!(L.any fun y => veq y x)), m) := by
  obtain ⟨ds, h1, h2, h3⟩ := toDs_all hL
  obtain ⟨d, h4, h5⟩ := hx.d
  have hm : Z.toDm m (.obj n) = some (.list ds) := by
    unfold Z.toDm
    simp only [hn, h1]
  have hxm : Z.toDm m x = some d := by
    cases x <;> first | exact h4 | (cases h4; done)
  have s1 : SeqAt.shaped d = true := by
    unfold SeqAt.shaped
    have := h5.dep
    rw [h5.lay]
    exact decide_eq_true (by omega)
  have s2 : SeqAt.shaped (.list ds) = true := by
    have z := sm_list h3
    unfold SeqAt.shaped
    have := z.dep
    rw [z.lay]
    exact decide_eq_true (by omega)
  have e : inDl true x (.obj n) m = some (.bl (!(L.any fun y => veq y x)), m) := by
    unfold inDl
    rw [hxm, hm]
    simp only [s1, s2, Bool.and_self, if_true, any_toD h1 h4]
  have e1 : inS true x (.obj n) m = none := by
    unfold inS seqD
    simp only [hn, hf]
  have e2 : inT true x (.obj n) m = none := by
    unfold inT
    split <;> first | rfl | (rename_i h; cases h)
  unfold inA orF
  rw [e1]
  dsimp only
  rw [e2]
  exact e
def NotIn (P : Vl → Prop) : Prop := ∀ x (L : List Vl) (m : Mem) (n : Nat), P x → (∀ y ∈ L, P y) → m[n]? = some (.lst L) → inA true x (.obj n) m = some (.bl (!(L.any fun y => veq y x)), m)
theorem ni_good : NotIn Good := fun x L m n hx hL hn => notin_good hx hL hn
theorem ni_sv : NotIn fun x => Sv x ∧ flatL x = none := fun x L m n hx hL hn => notin_sv hx.1 hx.2 (fun y hy => (hL y hy).1) hn
def onD : DS := dIfS (b2 (inA true) (dVar 2) (dVar 1)) (dDrop (dM "list" (lstM appH) (dVar 1) (dCons (dVar 2) (fun _ m => some (.ok [], m))))) dNil
theorem on_loop {P : Vl → Prop} (hP : NotIn P) (e0 : Option Vl) : ∀ (l acc : List Vl) (e2 : Option Vl) (m0 : Mem), (∀ x ∈ l, P x) → (∀ x ∈ acc, P x) → acc.length + l.length ≤ 100 → ∃ e2', forL (gVar 2) onD l [e0, some (.obj m0.length), e2] (m0 ++ [.lst acc]) = some (.nx [e0, some (.obj m0.length), e2'], m0 ++ [.lst (onceL acc l)])
  | [], acc, e2, m0, _, _, _ => ⟨e2, rfl⟩
  | x :: l, acc, e2, m0, hl, ha, hz => by
    rw [List.length_cons] at hz
    have hx := hl x (List.mem_cons_self ..)
    have hn : (m0 ++ [Cell.lst acc])[m0.length]? = some (.lst acc) := by simp
    have hi := hP x acc (m0 ++ [.lst acc]) m0.length hx ha hn
    have happ := lstM_z hn (appB acc x (by omega))
    have hset : (m0 ++ [Cell.lst acc]).set m0.length (.lst (acc ++ [x])) = m0 ++ [.lst (acc ++ [x])] := by simp
    rw [hset] at happ
    have step : onD [e0, some (.obj m0.length), some x] (m0 ++ [.lst acc]) = some (.nx [e0, some (.obj m0.length), some x], m0 ++ [.lst (if (acc.any fun y => veq y x) = true then acc else acc ++ [x])]) := by
      cases h : (acc.any fun y => veq y x)
      · simp [onD, hi, h, tyM_obj hn, happ]
      · simp [onD, hi, h]
    obtain ⟨e2', ih⟩ := on_loop hP e0 l (if (acc.any fun y => veq y x) = true then acc else acc ++ [x]) (some x) m0 (fun y hy => hl y (List.mem_cons_of_mem _ hy)) (by
      split
      · exact ha
      · intro y hy
        rcases List.mem_append.mp hy with hy | hy
        · exact ha y hy
        · rw [List.mem_singleton.mp hy]
          exact hx) (by
      split
      · omega
      · rw [List.length_append, List.length_singleton]
        omega)
    refine ⟨e2', ?_⟩
    unfold forL
    simp only [gVar_ap]
    show (match onD [e0, some (.obj m0.length), some x] (m0 ++ [.lst acc]) with
      | some (.nx env2, m2) => forL (gVar 2) onD l env2 m2
      | some (.ct env2, m2) => forL (gVar 2) onD l env2 m2
      | some (.bk env2, m2) => some (.nx env2, m2)
      | r => r) = _
    rw [step]
    dsimp only
    rw [ih]
    show _ = some (Fl.nx [e0, some (Vl.obj m0.length), e2'], m0 ++ [Cell.lst (if (acc.any fun y => veq y x) = true then onceL acc l else onceL (acc ++ [x]) l)])
    split <;> rfl
theorem once_B {P : Vl → Prop} (hP : NotIn P) {l : List Vl} (hl : ∀ x ∈ l, P x) (hz : l.length ≤ 100) : B_law_once [.lst l] [] = some (.ok (.obj 0), [.lst (onceL [] l)]) := by
  obtain ⟨e2, h⟩ := on_loop hP (some (.lst l)) l [] none [] hl (fun x hx => nomatch hx) (by rw [List.length_nil]; omega)
  have h : forL (gVar 2) onD l [some (.lst l), some (.obj 0), none] [Cell.lst []] = some (.nx [some (.lst l), some (.obj 0), e2], [.lst (onceL [] l)]) := h
  show bodyD 3 (dSeq (dAsg 1 (dNew (dLst (fun _ m => some (.ok [], m))))) (dSeq (dFor (iSeqD (dVar 0)) (gVar 2) onD) (dRet (dVar 1)))) [.lst l] [] = _
  simp [bodyD, startZ, h]
theorem once_call {P : Vl → Prop} (hP : NotIn P) {l : List Vl} (hl : ∀ x ∈ l, P x) (hz : l.length ≤ 100) (hc : ∀ x ∈ l, clo 0 x = true) (hk : ∀ x ∈ l, ∀ b m, cnv [] b m 29 x = some x) (m : Mem) : h_law_once_1 [.lst l] [] m = some (.ok (.lst (onceL [] l)), m) := by
  have cl : ∀ {L : List Vl}, (∀ x ∈ L, clo 0 x = true) → cloL 0 L = true := fun {L} => by
    induction L with
    | nil => exact fun _ => rfl
    | cons x L ih =>
      intro h
      show (clo 0 x && cloL 0 L) = true
      rw [h x (List.mem_cons_self ..), ih fun y hy => h y (List.mem_cons_of_mem _ hy)]
      rfl
  refine fresh_val (once_B hP hl hz) ?_ rfl ?_
  · show (cloL 0 l && true) = true
    rw [cl hc]
    rfl
  · show (mapO (cnv [] m.length [Cell.lst (onceL [] l)] 29) (onceL [] l)).map Vl.lst = _
    rw [mapO_scal fun x hx => hk x ((once_mem hx).resolve_left List.not_mem_nil) _ _]
    rfl
theorem lcZ_filt {g : DGc} {dt : DT} {de : DE} {env : Ev} {m : Mem} {p : Vl → Bool} {f : Vl → Vl} : ∀ {ys : List Vl}, (∀ x ∈ ys, ∃ env1, g x env = some env1 ∧ dt env1 m = some (.ok (p x), m) ∧ de env1 m = some (.ok (f x), m)) → lcZ g dt de env ys m = some ((ys.filter p).map f, m)
  | [], _ => rfl
  | x :: ys, h => by
    obtain ⟨env1, h1, h2, h3⟩ := h x (List.mem_cons_self ..)
    have ih := lcZ_filt fun y hy => h y (List.mem_cons_of_mem _ hy)
    unfold lcZ
    rw [List.filter_cons]
    cases hp : p x
    · simp only [h1, h2, hp, ih, Bool.false_eq_true, if_false]
    · simp only [h1, h2, hp, h3, ih, if_true, List.map_cons]
/-! dicts of values by name -/
def IntV (x : Vl) : Prop := ∃ i : Int, x = .int i ∧ 0 ≤ i ∧ i ≤ 999
def KOk (ks : List (Key × Vl)) : Prop := ∀ p ∈ ks, (∃ s : Str, p.1 = .inr s ∧ Nm s) ∧ IntV p.2
theorem kok_nil : KOk [] := fun p h => nomatch h
theorem kok_put {ks : List (Key × Vl)} {s : Str} {v : Vl} (h : KOk ks) (hs : Nm s) (hv : IntV v) : KOk (putZ ks (.inr s) v) := by
  intro p hp
  unfold putZ at hp
  split at hp
  · obtain ⟨q, hq, rfl⟩ := List.mem_map.mp hp
    split
    · exact ⟨(h q hq).1, hv⟩
    · exact h q hq
  · rcases List.mem_append.mp hp with hp | hp
    · exact h p hp
    · rw [List.mem_singleton.mp hp]
      exact ⟨⟨s, rfl, hs⟩, hv⟩
theorem put_len (ks : List (Key × Vl)) (k : Key) (v : Vl) : (putZ ks k v).length ≤ ks.length + 1 := by
  unfold putZ
  split
  · rw [List.length_map]
    omega
  · rw [List.length_append]
    exact Nat.le_refl _
theorem look_ok {ks : List (Key × Vl)} (h : KOk ks) {k : Key} {v : Vl} (e : lookZ ks k = some v) : IntV v := by
  unfold lookZ at e
  cases hf : ks.find? fun p => decide (p.1 = k) with
  | none =>
    rw [hf] at e
    cases e
  | some p =>
    rw [hf] at e
    cases e
    exact (h p (List.mem_of_find?_eq_some hf)).2
theorem look_put (ks : List (Key × Vl)) (k j : Key) (v : Vl) : lookZ (putZ ks k v) j = if k = j then some v else lookZ ks j := by
  unfold putZ
  split
  · rename_i h
    induction ks with
    | nil => cases h
    | cons p ks ih =>
      by_cases q : p.1 = k
      · by_cases c : k = j
        · simp [lookZ, q, c]
        · have e : lookZ ((p :: ks).map fun p => if p.1 = k then (p.1, v) else p) j = lookZ (ks.map fun p => if p.1 = k then (p.1, v) else p) j := by simp [lookZ, List.find?_cons, q, c]
          have e2 : lookZ (p :: ks) j = lookZ ks j := by
            have : ¬ (p.1 = j) := fun z => c (q.symm.trans z)
            simp [lookZ, List.find?_cons, this]
          rw [e, e2, if_neg c]
          cases h' : (ks.any fun p => decide (p.1 = k))
          · have : (ks.map fun p => if p.1 = k then (p.1, v) else p) = ks := by
              refine (List.map_congr_left fun x hx => ?_).trans (List.map_id ks)
              have := List.any_eq_false.mp h' x hx
              rw [if_neg (by simpa using this)]
              rfl
            rw [this]
          · rw [ih h', if_neg c]
      · have h' : (ks.any fun p => decide (p.1 = k)) = true := by
          rw [List.any_cons, decide_eq_false q, Bool.false_or] at h
          exact h
        by_cases c : p.1 = j
        · have hkj : ¬ (k = j) := fun z => q (c.trans z.symm)
          have e : (if p.1 = k then (p.1, v) else p) = p := if_neg q
          rw [if_neg hkj]
          unfold lookZ
          rw [List.map_cons, e, List.find?_cons, List.find?_cons, decide_eq_true c]
        · have e : lookZ ((p :: ks).map fun p => if p.1 = k then (p.1, v) else p) j = lookZ (ks.map fun p => if p.1 = k then (p.1, v) else p) j := by simp [lookZ, List.find?_cons, q, c]
          have e2 : lookZ (p :: ks) j = lookZ ks j := by simp [lookZ, List.find?_cons, c]
          rw [e, e2, ih h']
  · rename_i h
    have h' : ∀ p ∈ ks, ¬ (p.1 = k) := fun p hp e => h (List.any_eq_true.mpr ⟨p, hp, decide_eq_true e⟩)
    by_cases c : k = j
    · subst c
      have : ks.find? (fun p => decide (p.1 = k)) = none := List.find?_eq_none.mpr fun p hp => by simpa using h' p hp
      simp [lookZ, List.find?_append, this]
    · simp [lookZ, List.find?_append, c]
/-! repr of them -/
theorem kvs_ok : ∀ {ks : List (Key × Vl)}, KOk ks → ∃ D, kvsP ks = some D ∧ PyData.showableKv D = true ∧ PyData.depthKv D ≤ 0 ∧ piled (PyData.shownKv D) ≤ ks.length * 300
  | [], _ => ⟨[], rfl, rfl, Nat.le_refl _, Nat.le_refl _⟩
  | (k, v) :: ks, h => by
    obtain ⟨D, h1, h2, h3, h4⟩ := kvs_ok fun p hp => h p (List.mem_cons_of_mem _ hp)
    obtain ⟨⟨s, rfl, hs⟩, i, rfl, i0, i1⟩ : (∃ s : Str, k = .inr s ∧ Nm s) ∧ ∃ i : Int, v = .int i ∧ 0 ≤ i ∧ i ≤ 999 := h (k, v) (List.mem_cons_self ..)
    have e1 := sm_str (s := s) (n := 8) (fun c hc => by have := (hs.low c hc).2; omega) hs.l1
    have e2 := sm_int i i0 i1
    have l1 : (PyData.shown (.str s)).length ≤ 82 := e1.len
    have l2 : (PyData.shown (.int i)).length ≤ 200 := e2.len
    refine ⟨(.str s, .int i) :: D, ?_, ?_, ?_, ?_⟩
    · show (match some (PyData.int i), kvsP ks with
      | some d, some ds => some ((encP (.inr s), d) :: ds)
      | _, _ => none) = _
      rw [h1]
      rfl
    · show (PyData.showable (.str s) && PyData.showable (.int i) && PyData.showableKv D) = true
      rw [e1.sho, e2.sho, h2]
      rfl
    · show max (max 0 0) (PyData.depthKv D) ≤ 0
      omega
    · have e : PyData.shownKv ((.str s, .int i) :: D) = (PyData.shown (.str s) ++ ": " ++ PyData.shown (.int i)) :: PyData.shownKv D := PyData.shownKv_cons _ _ _
      have e3 : ((": " : String) : Str).length = 2 := rfl
      rw [e, piled_cons, strLen_append, strLen_append, e3, List.length_cons]
      omega
theorem repr_dic {ks : List (Key × Vl)} (h : KOk ks) (hl : ks.length ≤ 100) : ∃ S : Str, ∀ (m : Mem) (p : Nat), m[p]? = some (.dic ks) → reprK [.obj p] m = some (.str S, m) := by
  obtain ⟨D, h1, h2, h3, h4⟩ := kvs_ok h
  refine ⟨(PyData.dict D).shown, fun m p hp => ?_⟩
  have hs : (PyData.dict D).shown.length ≤ 100000 := by
    rw [PyData.shown_dict, strLen_append, strLen_append]
    have a1 : (("{" : String) : Str).length = 1 := rfl
    have a2 : (("}" : String) : Str).length = 1 := rfl
    rw [a1, a2]
    by_cases hn : PyData.shownKv D = []
    · rw [hn]
      have : (Str.join ((", " : String) : Str) []).length = 0 := rfl
      omega
    · have := join_length_add (PyData.shownKv D) hn
      omega
  have hd : (PyData.dict D).depth ≤ 60 := by
    show PyData.depthKv D + 1 ≤ 60
    omega
  unfold reprK
  simp only [dicD_obj hp, h1]
  rw [if_pos]
  rw [show PyData.showable (.dict D) = PyData.showableKv D from rfl, h2, decide_eq_true hd, decide_eq_true (le_sz hs)]
  rfl
/-! values in place of names -/
def subV (ks : List (Key × Vl)) : Vl → Vl
  | .str s => (lookZ ks (.inr s)).getD .non
  | t => t
def Fo.put (ks : List (Key × Vl)) : Fo → Fo
  | .all => .all
  | .is w t => .is w (subV ks t)
  | .no f => .no (f.put ks)
  | .an f g => .an (f.put ks) (g.put ks)
  | .or f g => .or (f.put ks) (g.put ks)
def has (ks : List (Key × Vl)) : Vl → Bool
  | .str s => (lookZ ks (.inr s)).isSome
  | _ => true
def Fo.Has (ks : List (Key × Vl)) : Fo → Prop
  | .all => True
  | .is _ t => has ks t = true
  | .no f => f.Has ks
  | .an f g => f.Has ks ∧ g.Has ks
  | .or f g => f.Has ks ∧ g.Has ks
theorem Fo.has_of {ks : List (Key × Vl)} : ∀ {f : Fo}, (∀ x ∈ f.nms, has ks x = true) → f.Has ks
  | .all, _ => trivial
  | .is w t, h => by
    show has ks t = true
    cases t with
    | str s => exact h _ (by show _ ∈ [Vl.str s].filter isStr; exact List.mem_cons_self ..)
    | _ => rfl
  | .no f, h => Fo.has_of (f := f) h
  | .an f g, h => by
    have e : (Fo.an f g).nms = f.nms ++ g.nms := by
      show ((f.prs ++ g.prs).map (·.2)).filter isStr = _
      rw [List.map_append, List.filter_append]
      rfl
    rw [e] at h
    exact ⟨Fo.has_of fun x hx => h x (List.mem_append_left _ hx), Fo.has_of fun x hx => h x (List.mem_append_right _ hx)⟩
  | .or f g, h => by
    have e : (Fo.or f g).nms = f.nms ++ g.nms := by
      show ((f.prs ++ g.prs).map (·.2)).filter isStr = _
      rw [List.map_append, List.filter_append]
      rfl
    rw [e] at h
    exact ⟨Fo.has_of fun x hx => h x (List.mem_append_left _ hx), Fo.has_of fun x hx => h x (List.mem_append_right _ hx)⟩
theorem sub_int {ks : List (Key × Vl)} (hk : KOk ks) {t : Vl} (ht : Good t) (h : has ks t = true) : IntV (subV ks t) := by
  cases ht with
  | int i h0 h1 => exact ⟨i, rfl, h0, h1⟩
  | str s hs =>
    have h : (lookZ ks (.inr s)).isSome = true := h
    obtain ⟨v, e⟩ := Option.isSome_iff_exists.mp h
    show IntV ((lookZ ks (.inr s)).getD .non)
    rw [e]
    exact look_ok hk e
theorem Fo.put_no (ks : List (Key × Vl)) (f : Fo) : (f.put ks).isNo = f.isNo := by cases f <;> rfl
theorem Fo.put_n (ks : List (Key × Vl)) : ∀ f : Fo, (f.put ks).n = f.n
  | .all => rfl
  | .is _ _ => rfl
  | .no f => Fo.put_n ks f
  | .an f g => by
    show (f.put ks).n + (g.put ks).n = _
    rw [Fo.put_n ks f, Fo.put_n ks g]
    rfl
  | .or f g => by
    show (f.put ks).n + (g.put ks).n = _
    rw [Fo.put_n ks f, Fo.put_n ks g]
    rfl
theorem Fo.put_ok {ks : List (Key × Vl)} (hk : KOk ks) : ∀ {f : Fo}, f.Ok → f.Has ks → (f.put ks).Ok ∧ (f.put ks).nms = []
  | .all, _, _ => ⟨trivial, rfl⟩
  | .is w t, h, hh => by
    obtain ⟨i, e, i0, i1⟩ := sub_int hk h.2 hh
    have e2 : (Fo.is w t).put ks = .is w (.int i) := by
      show Fo.is w (subV ks t) = _
      rw [e]
    rw [e2]
    exact ⟨⟨h.1, .int i i0 i1⟩, rfl⟩
  | .no f, h, hh => by
    obtain ⟨a, b⟩ := Fo.put_ok hk h.1 hh
    exact ⟨⟨a, by rw [Fo.put_no]; exact h.2⟩, b⟩
  | .an f g, h, hh => by
    obtain ⟨a, b⟩ := Fo.put_ok hk h.1 hh.1
    obtain ⟨c, d⟩ := Fo.put_ok hk h.2 hh.2
    refine ⟨⟨a, c⟩, ?_⟩
    show (((f.put ks).prs ++ (g.put ks).prs).map (·.2)).filter isStr = []
    rw [List.map_append, List.filter_append]
    show (f.put ks).nms ++ (g.put ks).nms = []
    rw [b, d]
    rfl
  | .or f g, h, hh => by
    obtain ⟨a, b⟩ := Fo.put_ok hk h.1 hh.1
    obtain ⟨c, d⟩ := Fo.put_ok hk h.2 hh.2
    refine ⟨⟨a, c⟩, ?_⟩
    show (((f.put ks).prs ++ (g.put ks).prs).map (·.2)).filter isStr = []
    rw [List.map_append, List.filter_append]
    show (f.put ks).nms ++ (g.put ks).nms = []
    rw [b, d]
    rfl
section
variable {ks : List (Key × Vl)} {n : Nat} {m : Mem}
theorem is_put (hk : KOk ks) (hn : m[n]? = some (.dic ks)) {t : Vl} (ht : Good t) (h : has ks t = true) (hs : isStr t = true) : ixK (.obj n) t m = some (subV ks t, m) := by
  cases ht with
  | int i h0 h1 => cases hs
  | str s hs =>
    have h : (lookZ ks (.inr s)).isSome = true := h
    obtain ⟨v, e⟩ := Option.isSome_iff_exists.mp h
    refine ixK_obj hn rfl ?_
    rw [e]
    show some v = some ((lookZ ks (.inr s)).getD .non)
    rw [e]
    rfl
theorem sub_same {t : Vl} (ht : Good t) (hs : isStr t = false) : subV ks t = t := by
  cases ht with
  | int i h0 h1 => rfl
  | str s _ => cases hs
theorem rep_ok (hk : KOk ks) (hn : m[n]? = some (.dic ks)) : ∀ (k : Nat) (f : Fo), f.Ok → f.Has ks → f.dp ≤ k → B_replaced_in k [f.v, .obj n] m = some (.ok (f.put ks).v, m)
  | 0, f, h, hh, hd => by cases f <;> cases hd
  | k + 1, f, h, hh, hd => by
    obtain ⟨l1, l2, l3, l4, l5, l6, l7, l8, l9, l10, l11⟩ := lits
    have z1 : (1 : Nat) ≤ sizeLine := le_size (by decide)
    have z2 : (2 : Nat) ≤ sizeLine := le_size (by decide)
    have z3 : (3 : Nat) ≤ sizeLine := le_size (by decide)
    have z0 : (0 : Nat) ≤ sizeLine := le_size (by decide)
    show bodyD 3 (D_replaced_in fun xs ys => B_replaced_in k (pickL [.a 0, .a 1] xs [] [] ys)) [f.v, .obj n] m = _
    cases f with
    | all => simp [bodyD, startZ, D_replaced_in, Fo.v, ix0, l1, sl_tail, lcZ, wipeE, seqD, Fo.put]
    | is w t =>
      have hi := isi_good h.2 m
      cases hs : isStr t with
      | true =>
        have e := is_put hk hn h.2 hh hs
        simp [bodyD, startZ, D_replaced_in, Fo.v, ix0, ix1, ix2, hi, hs, e, z3, Fo.put]
      | false =>
        have e := sub_same (ks := ks) h.2 hs
        simp [bodyD, startZ, D_replaced_in, Fo.v, ix0, ix1, ix2, hi, hs, e, z3, Fo.put]
    | no f =>
      have ih := rep_ok hk hn k f h.1 hh (by have : (Fo.no f).dp = f.dp + 1 := rfl; omega)
      simp [bodyD, startZ, D_replaced_in, Fo.v, ix0, l5, sl_tail, lcZ, dYes, wipeE, seqD, Fo.put, pick2, ih, z1, z2]
    | an f g =>
      have d : (Fo.an f g).dp = max f.dp g.dp + 1 := rfl
      have ih := rep_ok hk hn k f h.1 hh.1 (by omega)
      have ih' := rep_ok hk hn k g h.2 hh.2 (by omega)
      simp [bodyD, startZ, D_replaced_in, Fo.v, ix0, l6, sl_tail, lcZ, dYes, wipeE, seqD, Fo.put, pick2, ih, ih', z2, z3]
    | or f g =>
      have d : (Fo.or f g).dp = max f.dp g.dp + 1 := rfl
      have ih := rep_ok hk hn k f h.1 hh.1 (by omega)
      have ih' := rep_ok hk hn k g h.2 hh.2 (by omega)
      simp [bodyD, startZ, D_replaced_in, Fo.v, ix0, l8, sl_tail, lcZ, dYes, wipeE, seqD, Fo.put, pick2, ih, ih', z2, z3]
theorem tupF_lst (xs : List Vl) (h : xs.length ≤ sizeLine) (m : Mem) : tupleF [.lst xs] m = some (.tup xs, m) := by
  unfold tupleF
  simp only [seqD, h, if_true]
theorem lput_ok (hk : KOk ks) (hn : m[n]? = some (.dic ks)) : ∀ (k : Nat) (f : Fo), f.Ok → f.Has ks → f.dp ≤ k → B_law_put_in k [f.v, .obj n] m = some (.ok (f.put ks).v, m)
  | 0, f, h, hh, hd => by cases f <;> cases hd
  | k + 1, f, h, hh, hd => by
    obtain ⟨l1, l2, l3, l4, l5, l6, l7, l8, l9, l10, l11⟩ := lits
    have z1 : (1 : Nat) ≤ sizeLine := le_size (by decide)
    have z2 : (2 : Nat) ≤ sizeLine := le_size (by decide)
    have z3 : (3 : Nat) ≤ sizeLine := le_size (by decide)
    have z0 : (0 : Nat) ≤ sizeLine := le_size (by decide)
    show bodyD 3 (D_law_put_in fun xs ys => B_law_put_in k (pickL [.a 0, .a 1] xs [] [] ys)) [f.v, .obj n] m = _
    cases f with
    | all =>
      have ad := addA_lsts (a := [.str "all"]) (b := []) (m := m) z1
      have tf := tupF_lst [.str "all"] z1 m
      simp [bodyD, startZ, D_law_put_in, Fo.v, ix0, l1, sl_tail, lcZ, wipeE, Fo.put, ad, tf]
    | is w t =>
      have hi := isi_good h.2 m
      cases hs : isStr t with
      | true =>
        have e := is_put hk hn h.2 hh hs
        simp [bodyD, startZ, D_law_put_in, Fo.v, ix0, ix1, ix2, hi, hs, e, z3, Fo.put]
      | false =>
        have e := sub_same (ks := ks) h.2 hs
        simp [bodyD, startZ, D_law_put_in, Fo.v, ix0, ix1, ix2, hi, hs, e, z3, Fo.put]
    | no f =>
      have ih := lput_ok hk hn k f h.1 hh (by have : (Fo.no f).dp = f.dp + 1 := rfl; omega)
      have ad := addA_lsts (a := [.str "not"]) (b := [(f.put ks).v]) (m := m) z2
      have tf := tupF_lst [.str "not", (f.put ks).v] z2 m
      simp [bodyD, startZ, D_law_put_in, Fo.v, ix0, l5, sl_tail, lcZ, dYes, wipeE, Fo.put, pick2, ih, z1, ad, tf]
    | an f g =>
      have d : (Fo.an f g).dp = max f.dp g.dp + 1 := rfl
      have ih := lput_ok hk hn k f h.1 hh.1 (by omega)
      have ih' := lput_ok hk hn k g h.2 hh.2 (by omega)
      have ad := addA_lsts (a := [.str "and"]) (b := [(f.put ks).v, (g.put ks).v]) (m := m) z3
      have tf := tupF_lst [.str "and", (f.put ks).v, (g.put ks).v] z3 m
      simp [bodyD, startZ, D_law_put_in, Fo.v, ix0, l6, sl_tail, lcZ, dYes, wipeE, Fo.put, pick2, ih, ih', z2, ad, tf]
    | or f g =>
      have d : (Fo.or f g).dp = max f.dp g.dp + 1 := rfl
      have ih := lput_ok hk hn k f h.1 hh.1 (by omega)
      have ih' := lput_ok hk hn k g h.2 hh.2 (by omega)
      have ad := addA_lsts (a := [.str "or"]) (b := [(f.put ks).v, (g.put ks).v]) (m := m) z3
      have tf := tupF_lst [.str "or", (f.put ks).v, (g.put ks).v] z3 m
      simp [bodyD, startZ, D_law_put_in, Fo.v, ix0, l8, sl_tail, lcZ, dYes, wipeE, Fo.put, pick2, ih, ih', z2, ad, tf]
end
/-! a list with nothing in it -/
theorem eqv_nil {L : List Vl} {ds : List PyData} (h1 : Z.toDs L = some ds) (h2 : ds.length = L.length) : PyData.eqv (.list ds) (.list []) = L.isEmpty := by
  cases L with
  | nil =>
    cases h1
    rfl
  | cons x L =>
    cases ds with
    | nil => cases h2
    | cons d ds => rfl
theorem lst_nil {L : List Vl} (h : ∀ x ∈ L, Sv x) (hl : L.length ≤ 100) (m : Mem) : eqF (.lst L) (.lst []) m = some (.bl L.isEmpty, m) ∧ neF (.lst L) (.lst []) m = some (.bl (!L.isEmpty), m) := by
  obtain ⟨ds, h1, h2, h3⟩ := toDs_all h
  have z := eq_sm (x := .lst L) (y := .lst []) (m := m) (.inl rfl) (toD_lst h1) rfl (sm_list h3) (sm_list (ds := []) (k := 1) (n := 440) fun d hd => nomatch hd) (by decide) (by decide)
  rw [eqv_nil h1 h2] at z
  exact z
theorem cell_nil {L : List Vl} (h : ∀ x ∈ L, Sv x) (hl : L.length ≤ 100) {m : Mem} {p : Nat} (hp : m[p]? = some (.lst L)) : neF (.obj p) (.lst []) m = some (.bl (!L.isEmpty), m) := by
  obtain ⟨ds, h1, h2, h3⟩ := toDs_all h
  have hm : Z.toDm m (.obj p) = some (.list ds) := by
    unfold Z.toDm
    simp only [hp, h1]
  have z := (eq_sm (x := .obj p) (y := .lst []) (m := m) (.inl rfl) hm rfl (sm_list h3) (sm_list (ds := []) (k := 1) (n := 440) fun d hd => nomatch hd) (by decide) (by decide)).2
  rw [eqv_nil h1 h2] at z
  exact z
/-! turned -/
def tnT : DT := b2 neF (dVar 2) (dFrz (dLst (fun _ m => some (.ok [], m))))
def tnD : DS := dDrop (dM "list" (lstM appH) (dVar 3) (dCons (dM "list" (lstM popH) (dVar 2) (dCons (dCall 2 0 c_law_draw_2 (dCons (dVar 0) (dCons (dB lenF (dCons (dVar 2) (fun _ m => some (.ok [], m)))) (fun _ m => some (.ok [], m)))) dNone) (fun _ m => some (.ok [], m)))) (fun _ m => some (.ok [], m))))
section
variable {ns : List Int} {n : Nat}
theorem tn_step {p q : Nat} {xs ys : List Vl} {m : Mem} (hb : Bag ns n m) (hpn : p ≠ n) (hqn : q ≠ n) (hpq : p ≠ q) (hp : m[p]? = some (.lst xs)) (hq : m[q]? = some (.lst ys)) (h0 : 0 < xs.length) (h1 : xs.length ≤ 100) (h2 : ys.length ≤ 100) (e1 : Option Vl) : ∃ (i : Nat) (x : Vl) (m1 : Mem), xs[i]? = some x ∧ tnD [some (.obj n), e1, some (.obj p), some (.obj q)] m = some (.nx [some (.obj n), e1, some (.obj p), some (.obj q)], (m1.set p (.lst (xs.eraseIdx i))).set q (.lst (ys ++ [x]))) ∧ Fr ns n m m1 := by
  obtain ⟨d, m1, d0, d1, c0, F0⟩ := draw_i hb (xs.length : Int) (by omega) (by omega)
  have hi : d.toNat < xs.length := by omega
  have hp1 := F0.at hp hpn
  have hq1 := F0.at hq hqn
  have hpop := lstM_z hp1 (pop_i xs d d0 d1 (by omega) (List.getElem?_eq_getElem hi))
  have hq2 : (m1.set p (.lst (xs.eraseIdx d.toNat)))[q]? = some (.lst ys) := by
    rw [List.getElem?_set_ne hpq]
    exact hq1
  have happ := lstM_z hq2 (appB ys xs[d.toNat] (by omega))
  refine ⟨d.toNat, xs[d.toNat], m1, List.getElem?_eq_getElem hi, ?_, F0⟩
  simp [tnD, tyM_obj hp, tyM_obj hq, tyM_obj hp1, tyM_obj hq1, tyM_obj hq2, lenF_obj hp, c0, hpop, happ]
theorem tn_loop {p q : Nat} (hpn : p ≠ n) (hqn : q ≠ n) (hpq : p ≠ q) (e1 : Option Vl) : ∀ (c k : Nat) (xs ys : List Vl) (m : Mem), xs.length = c → c < k → (∀ x ∈ xs, Sv x) → Bag ns n m → m[p]? = some (.lst xs) → m[q]? = some (.lst ys) → xs.length + ys.length ≤ 100 → ∃ (ys' : List Vl) (m' : Mem), whileL tnT tnD k [some (.obj n), e1, some (.obj p), some (.obj q)] m = some (.nx [some (.obj n), e1, some (.obj p), some (.obj q)], m') ∧ m'[q]? = some (.lst ys') ∧ (∀ x ∈ ys', x ∈ xs ∨ x ∈ ys) ∧ ys'.length = c + ys.length ∧ Bag ns n m' ∧ m.length ≤ m'.length ∧ ∀ j, j ≠ n → j ≠ p → j ≠ q → j < m.length → m'[j]? = m[j]?
  | 0, k + 1, xs, ys, m, hc, hk, hs, hb, hp, hq, hz => by
    obtain rfl := List.length_eq_zero_iff.mp hc
    have t : tnT [some (.obj n), e1, some (.obj p), some (.obj q)] m = some (.ok false, m) := by
      have := cell_nil hs (by show 0 ≤ 100; decide) hp
      simp [tnT, this]
    exact ⟨ys, m, whileL_f t, hq, fun x hx => .inr hx, (Nat.zero_add _).symm, hb, Nat.le_refl _, fun _ _ _ _ _ => rfl⟩
  | c + 1, k + 1, xs, ys, m, hc, hk, hs, hb, hp, hq, hz => by
    have t : tnT [some (.obj n), e1, some (.obj p), some (.obj q)] m = some (.ok true, m) := by
      have h := cell_nil hs (by omega) hp
      have he : xs.isEmpty = false := by
        cases xs with
        | nil => cases hc
        | cons _ _ => rfl
      rw [he] at h
      simp [tnT, h]
    obtain ⟨i, x, m1, hx, b, F⟩ := tn_step hb hpn hqn hpq hp hq (by omega) (by omega) (by omega) e1
    have hil := getlt hx
    have hl := List.length_eraseIdx_of_lt hil
    have hp1 := F.at hp hpn
    have hq1 := F.at hq hqn
    have a1 : ((m1.set p (.lst (xs.eraseIdx i))).set q (.lst (ys ++ [x])))[p]? = some (.lst (xs.eraseIdx i)) := by
      rw [List.getElem?_set_ne (Ne.symm hpq)]
      exact get_set hp1
    have a2 : ((m1.set p (.lst (xs.eraseIdx i))).set q (.lst (ys ++ [x])))[q]? = some (.lst (ys ++ [x])) := by
      refine get_set (z := .lst ys) ?_
      rw [List.getElem?_set_ne hpq]
      exact hq1
    obtain ⟨ys', m', r1, r2, r3, r4, r5, r6, r7⟩ := tn_loop hpn hqn hpq e1 c k (xs.eraseIdx i) (ys ++ [x]) _ (by omega) (by omega) (fun y hy => hs y (List.mem_of_mem_eraseIdx hy)) ((F.bag.set hpn _).set hqn _) a1 a2 (by rw [List.length_append, List.length_singleton]; omega)
    refine ⟨ys', m', ?_, r2, fun y hy => ?_, by rw [r4, List.length_append, List.length_singleton]; omega, r5, ?_, fun j j1 j2 j3 j4 => ?_⟩
    · rw [whileL_t t b]
      exact r1
    · rcases r3 y hy with h | h
      · exact .inl (List.mem_of_mem_eraseIdx h)
      · rcases List.mem_append.mp h with h | h
        · exact .inr h
        · rw [List.mem_singleton.mp h]
          exact .inl (List.mem_of_getElem? hx)
    · have := F.le
      rw [List.length_set, List.length_set] at r6
      omega
    · rw [r7 j j1 j2 j3 (by rw [List.length_set, List.length_set]; have := F.le; omega), List.getElem?_set_ne (Ne.symm j3), List.getElem?_set_ne (Ne.symm j2)]
      exact F.keep j j1 j4
theorem turned_ok {m : Mem} (hb : Bag ns n m) {L : List Vl} (hs : ∀ x ∈ L, Sv x) (hl : L.length ≤ 50) : ∃ (q : Nat) (L' : List Vl) (m' : Mem), c_law_turned_2 [.obj n, .lst L] [] m = some (.ok (.obj q), m') ∧ m'[q]? = some (.lst L') ∧ m.length ≤ q ∧ q ≠ n ∧ (∀ x ∈ L', x ∈ L) ∧ L'.length = L.length ∧ Fr ns n m m' := by
  have hlt := hb.lt
  have hb2 := hb.app [Cell.lst L, .lst []]
  have a1 : (m ++ [Cell.lst L, .lst []])[m.length]? = some (.lst L) := by simp
  have a2 : (m ++ [Cell.lst L, .lst []])[m.length + 1]? = some (.lst []) := by
    rw [List.getElem?_append_right (by omega)]
    simp
  obtain ⟨L', m', r1, r2, r3, r4, r5, r6, r7⟩ := tn_loop (p := m.length) (q := m.length + 1) (by omega) (by omega) (by omega) (some (.lst L)) L.length 100 L [] _ rfl (by omega) hs hb2 a1 a2 (by rw [List.length_nil]; omega)
  refine ⟨m.length + 1, L', m', ?_, r2, by omega, by omega, fun x hx => (r3 x hx).resolve_right List.not_mem_nil, by rw [r4]; rfl, ⟨r5, ?_, fun j j1 j2 => ?_⟩⟩
  · show bodyD 4 (dSeq (dPar 2 3 (dCons (dNew (dListOf (dCons (dVar 1) (fun _ m => some (.ok [], m))))) (dCons (dNew (dLst (fun _ m => some (.ok [], m)))) (fun _ m => some (.ok [], m))))) (dSeq (dWhile 100 tnT tnD) (dRet (dVar 3)))) [.obj n, .lst L] m = _
    have r1 : dWhile 100 tnT tnD [some (.obj n), some (.lst L), some (.obj m.length), some (.obj (m.length + 1))] (m ++ [Cell.lst L, .lst []]) = some (.nx [some (.obj n), some (.lst L), some (.obj m.length), some (.obj (m.length + 1))], m') := r1
    have z : L.length ≤ sizeLine := le_size (by omega)
    have e : ∀ (d : Ev) mm, dListOf (dCons (dVar 1) fun _ m => some (.ok [], m)) (some (.obj n) :: some (.lst L) :: d) mm = some (.ok L, mm) := fun d mm => by
      simp [dListOf, listH, seqD, z]
    simp [bodyD, startZ, dPar, e, r1]
  · rw [List.length_append] at r6
    omega
  · rw [r7 j j1 (by omega) (by omega) (by rw [List.length_append]; omega), List.getElem?_append_left j2]
end
/-! a walk along a live list -/
theorem forW_inv {g : DG} {body : DS} {L : List Vl} {q : Nat} {P : Nat → Ev → Mem → Prop} (hP : ∀ i env m, P i env m → m[q]? = some (.lst L)) (step : ∀ i x env m, L[i]? = some x → P i env m → ∃ env1 env2 m2, g x env m = some (env1, m) ∧ body env1 m = some (.nx env2, m2) ∧ P (i + 1) env2 m2) : ∀ (k i : Nat) (env : Ev) (m : Mem), k + i = L.length → P i env m → ∃ env' m', forW g body (cellW q) k i env m = some (.nx env', m') ∧ P L.length env' m'
  | 0, i, env, m, hk, hp => by
    have hm := hP i env m hp
    have : i = L.length := by omega
    subst this
    refine ⟨env, m, ?_, hp⟩
    unfold forW cellW
    rw [hm]
    simp
  | k + 1, i, env, m, hk, hp => by
    have hm := hP i env m hp
    have hi : i < L.length := by omega
    have hx := List.getElem?_eq_getElem hi
    obtain ⟨env1, env2, m2, h1, h2, h3⟩ := step i _ env m hx hp
    obtain ⟨env', m', h4, h5⟩ := forW_inv hP step k (i + 1) env2 m2 (by omega) h3
    refine ⟨env', m', ?_, h5⟩
    unfold forW
    rw [show cellW q i m = some (some L[i]) by unfold cellW; rw [hm]; simp only [hx]]
    simp only [h1, h2]
    exact h4
/-! names: met or not -/
theorem veq_eq {x y : Vl} (hx : Good x) (hy : Good y) (h : veq y x = true) : y = x := by
  have a := (sm_good hx).1
  have b := (sm_good hy).1
  unfold veq at h
  rw [a, b] at h
  exact (eqv_good hy hx).mp h
theorem veq_rfl {x : Vl} (hx : Good x) : veq x x = true := by
  have a := (sm_good hx).1
  unfold veq
  rw [a]
  exact (eqv_good hx hx).mpr rfl
theorem once_all : ∀ {l acc : List Vl}, (∀ x ∈ l, Good x) → (∀ x ∈ acc, Good x) → ∀ x, (x ∈ acc ∨ x ∈ l) → x ∈ onceL acc l
  | [], acc, _, _, x, h => h.resolve_right List.not_mem_nil
  | y :: l, acc, hl, ha, x, h => by
    have hy := hl y (List.mem_cons_self ..)
    have hl' := fun z hz => hl z (List.mem_cons_of_mem y hz)
    rw [once_cons]
    split
    · rename_i hv
      refine once_all hl' ha x ?_
      rcases h with h | h
      · exact .inl h
      · rcases List.mem_cons.mp h with rfl | h
        · obtain ⟨z, hz, e⟩ := List.any_eq_true.mp hv
          rw [← veq_eq hy (ha z hz) e]
          exact .inl hz
        · exact .inr h
    · refine once_all hl' (fun z hz => ?_) x ?_
      · rcases List.mem_append.mp hz with hz | hz
        · exact ha z hz
        · rw [List.mem_singleton.mp hz]
          exact hy
      · rcases h with h | h
        · exact .inl (List.mem_append_left _ h)
        · rcases List.mem_cons.mp h with rfl | h
          · exact .inl (List.mem_append_right _ (List.mem_singleton.mpr rfl))
          · exact .inr h
/-- the names met, each once -/
def met (f : Fo) : List Vl := onceL [] f.nms
theorem met_ok {f : Fo} (h : f.Ok) : ∀ x ∈ met f, Good x ∧ isStr x = true := fun x hx => by
  have hx := (once_mem hx).resolve_left List.not_mem_nil
  exact ⟨nms_good h x hx, (List.mem_filter.mp hx).2⟩
theorem met_len (f : Fo) : (met f).length ≤ f.n := by
  have h1 := once_len f.nms []
  have h2 := nms_len f
  rw [List.length_nil] at h1
  unfold met
  omega
theorem met_all {f : Fo} (h : f.Ok) {p : Vl → Bool} (hp : ∀ x ∈ met f, p x = true) : ∀ x ∈ f.nms, p x = true := fun x hx => hp x (once_all (acc := []) (nms_good h) (fun _ hz => absurd hz List.not_mem_nil) x (.inr hx))
theorem met_nil {f : Fo} (h : f.Ok) : met f = [] ↔ f.nms = [] := by
  constructor
  · intro e
    cases hn : f.nms with
    | nil => rfl
    | cons x l =>
      have := once_all (acc := []) (nms_good h) (fun _ hz => absurd hz List.not_mem_nil) x (.inr (by rw [hn]; exact List.mem_cons_self ..) : x ∈ ([] : List Vl) ∨ x ∈ f.nms)
      have e : onceL [] f.nms = [] := e
      rw [e] at this
      cases this
  · intro e
    unfold met
    rw [e]
    rfl
/-! bound -/
def lack (ks : List (Key × Vl)) (x : Vl) : Bool := !has ks x
section
variable {ks : List (Key × Vl)} {p : Nat} {m : Mem}
theorem notin_ks (hp : m[p]? = some (.dic ks)) {x : Vl} (hx : Good x) (hs : isStr x = true) : inK true x (.obj p) m = some (.bl (lack ks x), m) := by
  cases hx with
  | int i _ _ => cases hs
  | str s _ => exact inK_obj hp rfl
def bdD : DS := dIfS (tB' (d2 (inK true) (dVar 2) (dVar 1))) (dRaise (dMk "Unbound" "name" (dCons (dVar 2) (fun _ m => some (.ok [], m))))) dNil
theorem bd_loop (hp : m[p]? = some (.dic ks)) (e0 : Option Vl) : ∀ {L : List Vl} (e2 : Option Vl), (∀ x ∈ L, Good x ∧ isStr x = true) → (L.find? (lack ks) = none → ∃ e2', forL (gVar 2) bdD L [e0, some (.obj p), e2] m = some (.nx [e0, some (.obj p), e2'], m)) ∧ ∀ x, L.find? (lack ks) = some x → ∃ env', forL (gVar 2) bdD L [e0, some (.obj p), e2] m = some (.ex "Unbound" [("name", x)] env', m)
  | [], e2, _ => ⟨fun _ => ⟨e2, rfl⟩, fun x h => nomatch h⟩
  | y :: L, e2, h => by
    obtain ⟨h1, h2⟩ := h y (List.mem_cons_self ..)
    obtain ⟨i1, i2⟩ := bd_loop hp e0 (some y) fun x hx => h x (List.mem_cons_of_mem _ hx)
    have hn := notin_ks hp h1 h2
    have step : ∀ z, bdD [e0, some (.obj p), some y] m = z → forL (gVar 2) bdD (y :: L) [e0, some (.obj p), e2] m = (match z with
      | some (.nx env2, m2) => forL (gVar 2) bdD L env2 m2
      | some (.ct env2, m2) => forL (gVar 2) bdD L env2 m2
      | some (.bk env2, m2) => some (.nx env2, m2)
      | r => r) := fun z e => by
      subst e
      rfl
    cases hl : lack ks y with
    | true =>
      rw [hl] at hn
      have b : bdD [e0, some (.obj p), some y] m = some (.ex "Unbound" [("name", y)] [e0, some (.obj p), some y], m) := by
        simp [bdD, hn]
      refine ⟨fun e => ?_, fun x e => ?_⟩
      · rw [List.find?_cons, hl] at e
        cases e
      · rw [List.find?_cons, hl] at e
        cases e
        exact ⟨_, step _ b⟩
    | false =>
      rw [hl] at hn
      have b : bdD [e0, some (.obj p), some y] m = some (.nx [e0, some (.obj p), some y], m) := by
        simp [bdD, hn]
      refine ⟨fun e => ?_, fun x e => ?_⟩
      · rw [List.find?_cons, hl] at e
        obtain ⟨e2', q⟩ := i1 e
        exact ⟨e2', (step _ b).trans q⟩
      · rw [List.find?_cons, hl] at e
        obtain ⟨env', q⟩ := i2 x e
        exact ⟨env', (step _ b).trans q⟩
theorem B_bound : D_Filter_bound = dSeq (dFor (iSeqD (dMeth "Filter" "parameters" 0 0 (fun xs ys => pickL [.a 0] xs [] [] ys) G_Filter_parameters (dVar 0) dNone dNone)) (gVar 2) bdD) (dRet (dCall 1 0 n_Filter_init_2 (dCons (dCall 2 0 c_replaced_in_2 (dCons (dFld ["Filter"] "form" (dVar 0)) (dCons (dVar 1) (fun _ m => some (.ok [], m)))) dNone) (fun _ m => some (.ok [], m))) dNone)) := rfl
theorem at_app (hp : m[p]? = some (.dic ks)) (ext : Mem) : (m ++ ext)[p]? = some (.dic ks) := by
  rw [List.getElem?_append_left (getlt hp)]
  exact hp
theorem bound_free {f : Fo} (h : f.Ok) (hn : f.n ≤ 8) (hk : KOk ks) (hp : m[p]? = some (.dic ks)) (hh : (met f).find? (lack ks) = none) : f.Has ks ∧ ∃ ext : Mem, G_Filter_bound [filV f.v, .obj p] m = some (.ok (filV (f.put ks).v), m ++ ext) := by
  have hH : f.Has ks := Fo.has_of (met_all h fun x hx => by
    have := List.find?_eq_none.mp hh x hx
    unfold lack at this
    cases e : has ks x
    · rw [e] at this
      exact absurd rfl this
    · rfl)
  refine ⟨hH, ?_⟩
  obtain ⟨ext, e⟩ := prm_i h (by omega) m
  have q := meth0_fil (mn := "parameters") (g := G_Filter_parameters) (v := f.v) (de := dVar 0) (env := [some (filV f.v), some (.obj p), none]) (m := m) (by decide +kernel) rfl e
  obtain ⟨e2', hl⟩ := (bd_loop (at_app hp ext) (some (filV f.v)) none (met_ok h)).1 hh
  have hl : forL (gVar 2) bdD (onceL [] f.nms) [some (filV f.v), some (.obj p), none] (m ++ ext) = _ := hl
  have r : c_replaced_in_2 [f.v, .obj p] [] (m ++ ext) = some (.ok (f.put ks).v, m ++ ext) := rep_ok hk (at_app hp ext) 40 f h hH (by have := (Fo.dp_le h).1; omega)
  have mk := filter_make (Fo.put_ok hk h hH).1 (by rw [Fo.put_n]; exact hn) (m ++ ext)
  have f1 : ∀ (e : Ev) m, dFld ["Filter"] "form" (dVar 0) (some (filV f.v) :: e) m = some (.ok f.v, m) := fun e m => rfl
  refine ⟨ext, ?_⟩
  show bodyD 3 D_Filter_bound [filV f.v, .obj p] m = _
  rw [B_bound]
  simp [bodyD, startZ, q, hl, -dFld_ap, f1, r, mk]
theorem bound_lack {f : Fo} (h : f.Ok) (hn : f.n ≤ 8) (hp : m[p]? = some (.dic ks)) {x : Vl} (hh : (met f).find? (lack ks) = some x) : ∃ ext : Mem, G_Filter_bound [filV f.v, .obj p] m = some (.ex "Unbound" [("name", x)], m ++ ext) := by
  obtain ⟨ext, e⟩ := prm_i h (by omega) m
  have q := meth0_fil (mn := "parameters") (g := G_Filter_parameters) (v := f.v) (de := dVar 0) (env := [some (filV f.v), some (.obj p), none]) (m := m) (by decide +kernel) rfl e
  obtain ⟨env', hl⟩ := (bd_loop (at_app hp ext) (some (filV f.v)) none (met_ok h)).2 x hh
  have hl : forL (gVar 2) bdD (onceL [] f.nms) [some (filV f.v), some (.obj p), none] (m ++ ext) = _ := hl
  refine ⟨ext, ?_⟩
  show bodyD 3 D_Filter_bound [filV f.v, .obj p] m = _
  rw [B_bound]
  simp [bodyD, startZ, q, hl]
/-! the law's own bound -/
def hsB : List Hz := [("Unbound", some 2, (dRet (dTup (dCons (dC .non) (dCons (dXf esZ "name" (dVar 2)) (fun _ m => some (.ok [], m)))))))]
theorem B_lbound : D_law_bound = dSeq (dTry (exTb exL) (dAsg 3 (dMeth "Filter" "bound" 1 0 (fun xs ys => pickL [.a 0, .a 1] xs [] [] ys) G_Filter_bound (dVar 0) (dCons (dVar 1) (fun _ m => some (.ok [], m))) dNone)) hsB) (dRet (dTup (dCons (dVar 3) (dCons (dC .non) (fun _ m => some (.ok [], m)))))) := rfl
theorem meth1_fil {mn : Str} {g : FD} {v u : Vl} {r : R Vl × Mem} {de da : DE} {env : Ev} {m m1 m2 : Mem} (hk : (mn == ("form" : Str)) = false) (hd : de env m = some (.ok (filV v), m1)) (ha : da env m1 = some (.ok u, m2)) (hg : g [filV v, u] m2 = some r) : dMeth "Filter" mn 1 0 (fun xs ys => pickL [.a 0, .a 1] xs [] [] ys) g de (dCons da (fun _ m => some (.ok [], m))) dNone env m = some r := by
  unfold dMeth
  simp only [hd, bindR_ok, insD_fil]
  rw [if_pos (by simp [List.lookup, hk])]
  simp only [dCons_ap, ha, bindR_ok, dNone_ap, List.length_cons, List.length_nil, and_self, if_true]
  exact hg
theorem methK_fil {mn : Str} {g : FD} {v u : Vl} {r : R Vl × Mem} {de da : DE} {env : Ev} {m m1 m2 : Mem} (hk : (mn == ("form" : Str)) = false) (hd : de env m = some (.ok (filV v), m1)) (ha : da env m1 = some (.ok u, m2)) (hg : g [filV v, u] m2 = some r) : dMeth "Filter" mn 0 1 (fun xs ys => pickL [.a 0, .k 0] xs [] [] ys) g de dNone (dCons da (fun _ m => some (.ok [], m))) env m = some r := by
  unfold dMeth
  simp only [hd, bindR_ok, insD_fil]
  rw [if_pos (by simp [List.lookup, hk])]
  simp only [dCons_ap, ha, bindR_ok, dNone_ap, List.length_cons, List.length_nil, and_self, if_true]
  exact hg
theorem lbound_free {f : Fo} (h : f.Ok) (hn : f.n ≤ 8) (hk : KOk ks) (hp : m[p]? = some (.dic ks)) (hh : (met f).find? (lack ks) = none) : ∃ ext : Mem, c_law_bound_2 [filV f.v, .obj p] [] m = some (.ok (.tup [filV (f.put ks).v, .non]), m ++ ext) := by
  obtain ⟨_, ext, e⟩ := bound_free h hn hk hp hh
  have q := meth1_fil (mn := "bound") (de := dVar 0) (da := dVar 1) (env := [some (filV f.v), some (.obj p), none, none]) (m := m) (by decide +kernel) rfl rfl e
  have z2 : (2 : Nat) ≤ sizeLine := le_size (by decide)
  refine ⟨ext, ?_⟩
  show bodyD 4 D_law_bound [filV f.v, .obj p] m = _
  rw [B_lbound]
  simp [bodyD, startZ, q, z2]
theorem lbound_lack {f : Fo} (h : f.Ok) (hn : f.n ≤ 8) (hp : m[p]? = some (.dic ks)) {x : Vl} (hh : (met f).find? (lack ks) = some x) : ∃ ext : Mem, c_law_bound_2 [filV f.v, .obj p] [] m = some (.ok (.tup [.non, x]), m ++ ext) := by
  obtain ⟨ext, e⟩ := bound_lack h hn hp hh
  have q := meth1_fil (mn := "bound") (de := dVar 0) (da := dVar 1) (env := [some (filV f.v), some (.obj p), none, none]) (m := m) (by decide +kernel) rfl rfl e
  have z2 : (2 : Nat) ≤ sizeLine := le_size (by decide)
  have x1 : exTb exL "Unbound" "Unbound" = some true := by decide +kernel
  have es : ("Unbound" : Str) ∈ esZ := List.contains_iff_mem.mp (by decide +kernel)
  have t : ∀ (e0 e1 e3 : Option Vl) m, hdZ (exTb exL) hsB "Unbound" [("name", x)] [e0, e1, none, e3] m = some (.rt (.tup [.non, x]), m) := fun e0 e1 e3 m => by
    unfold hsB
    rw [hdZ_as x1]
    simp [es, z2]
  refine ⟨ext, ?_⟩
  show bodyD 4 D_law_bound [filV f.v, .obj p] m = _
  rw [B_lbound]
  simp [bodyD, startZ, q, t]
end
abbrev NS : List Vl := [.str "v", .str "all", .str "vv", .str "a"]
abbrev N6 : List Vl := NS ++ [.str "b", .str "zzzzzzzz"]
theorem ns_nm : ∀ x ∈ N6, ∃ s, x = .str s ∧ Nm s := by
  have h : ∀ s ∈ (["v", "all", "vv", "a", "b", "zzzzzzzz"] : List Str), 1 ≤ s.length ∧ s.length ≤ 8 ∧ ∀ c ∈ s.cps.toList, 97 ≤ c ∧ c ≤ 122 := by decide +kernel
  intro x hx
  have hx : x ∈ ((["v", "all", "vv", "a", "b", "zzzzzzzz"] : List Str).map Vl.str) := hx
  obtain ⟨s, hs, rfl⟩ := List.mem_map.mp hx
  obtain ⟨a, b, c⟩ := h s hs
  exact ⟨s, rfl, ⟨a, b, c⟩⟩
theorem put_z {do' dk dv : DE} {env : Ev} {m m1 : Mem} {d : Nat} {s : Str} {v : Vl} {ks : List (Key × Vl)} (hv : dv env m = some (.ok v, m1)) (ho : do' env m1 = some (.ok (.obj d), m1)) (hk : dk env m1 = some (.ok (.str s), m1)) (hm : m1[d]? = some (.dic ks)) (hz : ks.length < 1000) : dPutK do' dk dv env m = some (.nx env, m1.set d (.dic (putZ ks (.inr s) v))) := by
  have kd : keyD (.str s) = some (.inr s) := rfl
  have z : ks.length < sizeLine := Nat.lt_of_lt_of_le hz (by decide)
  rw [dPutK_ap]
  simp only [hv, ho, hk, bindS_ok, kd, hm, z, if_true]
theorem fld_fil {de : DE} {env : Ev} {m m1 : Mem} {v : Vl} (hd : de env m = some (.ok (filV v), m1)) : dFld ["Filter"] "form" de env m = some (.ok v, m1) := by
  unfold dFld
  rw [hd]
  rfl
theorem icall_fil {v u : Vl} {de da : DE} {e : Ev} {m : Mem} {r : R Vl × Mem} (hd : de e m = some (.ok (filV v), m)) (ha : da e m = some (.ok u, m)) (h : G_Filter_call [filV v, u] m = some r) : dICall "Filter" 1 (fun xs ys => pickL [.a 0, .a 1] xs [] [] ys) G_Filter_call de (dCons da (fun _ m => some (.ok [], m))) e m = some r := by
  unfold dICall
  simp only [hd, bindR_ok, insD_fil, if_true, dCons_ap, ha, List.length_cons, List.length_nil, and_self]
  exact h
theorem repr_bl (b : Bool) : ∃ S : Str, ∀ m, reprF [.bl b] m = some (.str S, m) := ⟨(PyData.bool b).shown, fun m => repr_sm (d := .bool b) (k := 5) (n := 500) rfl ⟨rfl, Nat.zero_le _, rfl, rfl, by show 5 ≤ 500; decide⟩ (by decide) (by decide)⟩
theorem ne_bl (b : Bool) (m : Mem) : neF (.bl b) (.bl b) m = some (.bl false, m) := by cases b <;> rfl
theorem ne_non (m : Mem) : neF .non .non m = some (.bl false, m) := rfl
/-! more values -/
theorem has_put {ks : List (Key × Vl)} {k : Key} {v x : Vl} (h : has ks x = true) : has (putZ ks k v) x = true := by
  cases x with
  | str s =>
    have h : (lookZ ks (.inr s)).isSome = true := h
    show (lookZ (putZ ks k v) (.inr s)).isSome = true
    rw [look_put]
    split
    · rfl
    · exact h
  | _ => rfl
theorem find_put {f : Fo} {ks : List (Key × Vl)} {k : Key} {v : Vl} (h : (met f).find? (lack ks) = none) : (met f).find? (lack (putZ ks k v)) = none := by
  rw [List.find?_eq_none] at h ⊢
  intro x hx
  have := h x hx
  unfold lack at this ⊢
  cases e : has ks x
  · rw [e] at this
    exact absurd rfl this
  · rw [has_put e]
    exact Bool.false_ne_true
theorem Fo.put_id {ks : List (Key × Vl)} : ∀ {f : Fo}, f.Ok → f.Cl → f.put ks = f
  | .all, _, _ => rfl
  | .is w t, h, hc => by
    show Fo.is w (subV ks t) = _
    rw [sub_same h.2 hc]
  | .no f, h, hc => by
    show Fo.no (f.put ks) = _
    rw [Fo.put_id h.1 hc]
  | .an f g, h, hc => by
    show Fo.an (f.put ks) (g.put ks) = _
    rw [Fo.put_id h.1 hc.1, Fo.put_id h.2 hc.2]
  | .or f g, h, hc => by
    show Fo.or (f.put ks) (g.put ks) = _
    rw [Fo.put_id h.1 hc.1, Fo.put_id h.2 hc.2]
theorem same_form {ks : List (Key × Vl)} (hk : KOk ks) {f : Fo} (h : f.Ok) (hh : f.Has ks) : PyData.eqv (f.put ks).d f.d = (met f).isEmpty := by
  obtain ⟨a, b⟩ := Fo.put_ok hk h hh
  have e := eqv_fo a h
  cases hm : (met f) with
  | nil =>
    have hn := (met_nil h).mp hm
    exact e.mpr (Fo.put_id h (Fo.cl_of hn))
  | cons x l =>
    show _ = false
    rw [Bool.eq_false_iff]
    intro z
    have := e.mp z
    rw [this] at b
    have := (met_nil h).mpr b
    rw [this] at hm
    cases hm
section
variable {ns : List Int} {n : Nat} {m : Mem} {f : Fo} {d : Nat} {ks : List (Key × Vl)}
theorem p1_ok (hb : Bag ns n m) (hd : m[d]? = some (.dic [])) (hdn : d ≠ n) (pl : Int) (e0 e1 e4 e5 e7 e8 e10 e11 e12 e13 e14 e15 e16 e17 e18 : Option Vl) : ∃ (ks : List (Key × Vl)) (f10 : Option Vl) (m' : Mem), D_law_0_2_2_1 [e0, e1, some (.obj n), some (.lst NS), e4, e5, some (.int pl), e7, e8, some (.obj d), e10, e11, e12, e13, e14, e15, e16, e17, e18] m = some (.nx [e0, e1, some (.obj n), some (.lst NS), e4, e5, some (.int pl), e7, e8, some (.obj d), f10, e11, e12, e13, e14, e15, e16, e17, e18], m') ∧ Bag ns n m' ∧ m'[d]? = some (.dic ks) ∧ KOk ks ∧ ks.length ≤ 6 := by
  have ad := addA_lsts (a := NS) (b := [.str "b", .str "zzzzzzzz"]) (m := m) (le_size (by decide))
  obtain ⟨q, L', m1, c1, hq, hq0, hqn, hL, hLl, F1⟩ := turned_ok hb (L := N6) (fun x hx => by
    obtain ⟨s, rfl, hs⟩ := ns_nm x hx
    exact sv_good (.str s hs)) (by decide)
  have c1 : c_law_turned_2 [.obj n, .lst [.str "v", .str "all", .str "vv", .str "a", .str "b", .str "zzzzzzzz"]] [] m = some (.ok (.obj q), m1) := c1
  have hd1 := F1.at hd hdn
  have hdq : d ≠ q := by
    have := getlt hd
    omega
  obtain ⟨env', m', hf, hB, hq', ks, f10, hk1, hk2, hk3, rfl⟩ := forW_inv (g := gVar 10) (body := D_law_0_2_2_1_0) (L := L') (q := q) (P := fun i env mm => Bag ns n mm ∧ mm[q]? = some (.lst L') ∧ ∃ (ks : List (Key × Vl)) (f10 : Option Vl), mm[d]? = some (.dic ks) ∧ KOk ks ∧ ks.length ≤ i ∧ env = [e0, e1, some (.obj n), some (.lst NS), e4, e5, some (.int pl), e7, e8, some (.obj d), f10, e11, e12, e13, e14, e15, e16, e17, e18]) (fun i env mm h => h.2.1) (by
    rintro i x env mm hx ⟨hb, hq, ks, f10, k1, k2, k3, rfl⟩
    have hxm := hL x (List.mem_of_getElem? hx)
    have hil : i < 6 := by
      have := getlt hx
      rw [hLl] at this
      exact this
    obtain ⟨s, rfl, hs⟩ := ns_nm x hxm
    have put : ∀ m1, Fr ns n mm m1 → ∃ m2, D_law_0_2_2_1_0_0 [e0, e1, some (.obj n), some (.lst NS), e4, e5, some (.int pl), e7, e8, some (.obj d), some (.str s), e11, e12, e13, e14, e15, e16, e17, e18] m1 = some (.nx [e0, e1, some (.obj n), some (.lst NS), e4, e5, some (.int pl), e7, e8, some (.obj d), some (.str s), e11, e12, e13, e14, e15, e16, e17, e18], m2) ∧ Bag ns n m2 ∧ m2[q]? = some (.lst L') ∧ ∃ (ks' : List (Key × Vl)), m2[d]? = some (.dic ks') ∧ KOk ks' ∧ ks'.length ≤ i + 1 := by
      intro m1 F
      obtain ⟨z, m2, z0, z1, c2, F2⟩ := cell_i F.bag
      have FF := F.trans F2
      have hd2 := FF.at k1 hdn
      refine ⟨m2.set d (.dic (putZ ks (.inr s) (.int z))), ?_, FF.bag.set hdn _, ?_, putZ ks (.inr s) (.int z), get_set hd2, kok_put k2 hs ⟨z, rfl, z0, z1⟩, ?_⟩
      · exact put_z (v := .int z) (by simp [c2]) rfl rfl hd2 (by omega)
      · rw [List.getElem?_set_ne hdq]
        exact FF.at hq hqn
      · have := put_len ks (.inr s) (.int z)
        omega
    by_cases hp : pl = 0
    · obtain ⟨m2, a1, a2, a3, ks', a4, a5, a6⟩ := put mm (Fr.refl hb)
      refine ⟨[e0, e1, some (.obj n), some (.lst NS), e4, e5, some (.int pl), e7, e8, some (.obj d), some (.str s), e11, e12, e13, e14, e15, e16, e17, e18], [e0, e1, some (.obj n), some (.lst NS), e4, e5, some (.int pl), e7, e8, some (.obj d), some (.str s), e11, e12, e13, e14, e15, e16, e17, e18], m2, rfl, ?_, a2, a3, ks', some (.str s), a4, a5, a6, rfl⟩
      simp [D_law_0_2_2_1_0, hp]
      rw [hp] at a1
      exact a1
    · obtain ⟨z, m1, z0, z1, c2, F2⟩ := draw_i hb 3 (by decide) (by decide)
      by_cases hz : 0 < z
      · obtain ⟨m2, a1, a2, a3, ks', a4, a5, a6⟩ := put m1 F2
        refine ⟨[e0, e1, some (.obj n), some (.lst NS), e4, e5, some (.int pl), e7, e8, some (.obj d), some (.str s), e11, e12, e13, e14, e15, e16, e17, e18], [e0, e1, some (.obj n), some (.lst NS), e4, e5, some (.int pl), e7, e8, some (.obj d), some (.str s), e11, e12, e13, e14, e15, e16, e17, e18], m2, rfl, ?_, a2, a3, ks', some (.str s), a4, a5, a6, rfl⟩
        simp [D_law_0_2_2_1_0, hp, c2, hz, a1]
      · refine ⟨[e0, e1, some (.obj n), some (.lst NS), e4, e5, some (.int pl), e7, e8, some (.obj d), some (.str s), e11, e12, e13, e14, e15, e16, e17, e18], [e0, e1, some (.obj n), some (.lst NS), e4, e5, some (.int pl), e7, e8, some (.obj d), some (.str s), e11, e12, e13, e14, e15, e16, e17, e18], m1, rfl, ?_, F2.bag, F2.at hq hqn, ks, some (.str s), F2.at k1 hdn, k2, by omega, rfl⟩
        simp [D_law_0_2_2_1_0, hp, c2, hz]) L'.length 0 [e0, e1, some (.obj n), some (.lst NS), e4, e5, some (.int pl), e7, e8, some (.obj d), e10, e11, e12, e13, e14, e15, e16, e17, e18] m1 (by omega) ⟨F1.bag, hq, [], e10, hd1, kok_nil, Nat.le_refl _, rfl⟩
  have hw : wkOf m1 (.obj q) = some (cellW q, L'.length) := by
    unfold wkOf
    simp only [hq]
  refine ⟨ks, f10, m', ?_, hB, hk1, hk2, by rw [hLl] at hk3; exact hk3⟩
  rw [show D_law_0_2_2_1 = dForW (wLst (dCall 2 0 c_law_turned_2 (dCons (dVar 2) (dCons (d2 addA (dVar 3) (dFrz (dLst (dCons (dC (.str "b")) (dCons (dC (.str "zzzzzzzz")) (fun _ m => some (.ok [], m))))))) (fun _ m => some (.ok [], m)))) dNone)) (gVar 10) D_law_0_2_2_1_0 from rfl, dForW_ap, wLst_ap]
  simp [ad, c1, hw, hf]
theorem p2_ok (hf : f.Ok) (hn : f.n ≤ 8) (hd : m[d]? = some (.dic ks)) (e0 e1 e2 e3 e4 e6 e7 e8 e10 e11 e12 e13 e14 e15 e16 e17 e18 : Option Vl) : D_law_0_2_2_2 [e0, e1, e2, e3, e4, some (.lst (met f)), e6, e7, e8, some (.obj d), e10, e11, e12, e13, e14, e15, e16, e17, e18] m = some (.nx [e0, e1, e2, e3, e4, some (.lst (met f)), e6, e7, e8, some (.obj d), e10, some (.lst ((met f).filter (lack ks))), e12, e13, e14, e15, e16, e17, e18], m) := by
  have hlc := lcZ_filt (g := gcVar 10) (dt := tB' (d2 (inK true) (dVar 10) (dVar 9))) (de := dVar 10) (env := [e0, e1, e2, e3, e4, some (.lst (met f)), e6, e7, e8, some (.obj d), none, e11, e12, e13, e14, e15, e16, e17, e18]) (m := m) (p := lack ks) (f := fun x => x) (ys := met f) (fun x hx => by
    have h := notin_ks hd (met_ok hf x hx).1 (met_ok hf x hx).2
    refine ⟨_, rfl, ?_, rfl⟩
    simp [h])
  rw [List.map_id'] at hlc
  have sz : (met f).length ≤ sizeLine := le_size (by have := met_len f; omega)
  simp [D_law_0_2_2_2, wipeE, hlc, sz]
theorem p3_ok {S : Str} (hd : m[d]? = some (.dic ks)) (hS : ∀ (m : Mem) (p : Nat), m[p]? = some (.dic ks) → reprK [.obj p] m = some (.str S, m)) (e0 e1 e2 e3 e4 e5 e6 e7 e8 e10 e11 e12 e13 e14 e15 e16 e17 e18 : Option Vl) : D_law_0_2_2_3 [e0, e1, e2, e3, e4, e5, e6, e7, e8, some (.obj d), e10, e11, e12, e13, e14, e15, e16, e17, e18] m = some (.nx [e0, e1, e2, e3, e4, e5, e6, e7, e8, some (.obj d), e10, e11, some (.str S), e13, e14, e15, e16, e17, e18], m) := by
  have h := hS m d hd
  simp [D_law_0_2_2_3, h]
theorem p4a_ok (hf : f.Ok) (hn : f.n ≤ 8) (hk : KOk ks) (hd : m[d]? = some (.dic ks)) (hh : (met f).find? (lack ks) = none) (e0 e1 e2 e3 e4 e5 e6 e8 e10 e11 e12 e13 e14 e15 e16 e17 e18 : Option Vl) : ∃ ext : Mem, D_law_0_2_2_4 [e0, e1, e2, e3, e4, e5, e6, some (filV f.v), e8, some (.obj d), e10, e11, e12, e13, e14, e15, e16, e17, e18] m = some (.nx [e0, e1, e2, e3, e4, e5, e6, some (filV f.v), e8, some (.obj d), e10, e11, e12, some (filV (f.put ks).v), some .non, e15, e16, e17, e18], m ++ ext) := by
  obtain ⟨ext, e⟩ := lbound_free hf hn hk hd hh
  exact ⟨ext, by simp [D_law_0_2_2_4, e, gTupD]⟩
theorem p4b_ok (hf : f.Ok) (hn : f.n ≤ 8) (hd : m[d]? = some (.dic ks)) {x : Vl} (hh : (met f).find? (lack ks) = some x) (e0 e1 e2 e3 e4 e5 e6 e8 e10 e11 e12 e13 e14 e15 e16 e17 e18 : Option Vl) : ∃ ext : Mem, D_law_0_2_2_4 [e0, e1, e2, e3, e4, e5, e6, some (filV f.v), e8, some (.obj d), e10, e11, e12, e13, e14, e15, e16, e17, e18] m = some (.nx [e0, e1, e2, e3, e4, e5, e6, some (filV f.v), e8, some (.obj d), e10, e11, e12, some .non, some x, e15, e16, e17, e18], m ++ ext) := by
  obtain ⟨ext, e⟩ := lbound_lack hf hn hd hh
  exact ⟨ext, by simp [D_law_0_2_2_4, e, gTupD]⟩
theorem p5a_ok {S : Str} (hd : m[d]? = some (.dic ks)) (hS : ∀ (m : Mem) (p : Nat), m[p]? = some (.dic ks) → reprK [.obj p] m = some (.str S, m)) (e0 e1 e2 e3 e4 e5 e6 e7 e8 e10 e13 e15 e16 e17 e18 : Option Vl) : D_law_0_2_2_5 [e0, e1, e2, e3, e4, e5, e6, e7, e8, some (.obj d), e10, some (.lst []), some (.str S), e13, some .non, e15, e16, e17, e18] m = some (.nx [e0, e1, e2, e3, e4, e5, e6, e7, e8, some (.obj d), e10, some (.lst []), some (.str S), e13, some .non, e15, e16, e17, e18], m) := by
  have h := hS m d hd
  have h1 := (lst_nil (L := []) (fun _ h => absurd h List.not_mem_nil) (by decide) m).2
  simp [D_law_0_2_2_5, h, h1, ne_non]
theorem p5b_ok {S s : Str} {r : List Vl} (hs : ∀ x ∈ Vl.str s :: r, Sv x) (hl : (Vl.str s :: r).length ≤ 100) (hd : m[d]? = some (.dic ks)) (hS : ∀ (m : Mem) (p : Nat), m[p]? = some (.dic ks) → reprK [.obj p] m = some (.str S, m)) (e0 e1 e2 e3 e4 e5 e6 e7 e8 e10 e13 e15 e16 e17 e18 : Option Vl) : D_law_0_2_2_5 [e0, e1, e2, e3, e4, e5, e6, e7, e8, some (.obj d), e10, some (.lst (.str s :: r)), some (.str S), e13, some (.str s), e15, e16, e17, e18] m = some (.nx [e0, e1, e2, e3, e4, e5, e6, e7, e8, some (.obj d), e10, some (.lst (.str s :: r)), some (.str S), e13, some (.str s), e15, e16, e17, e18], m) := by
  have h := hS m d hd
  have h1 := (lst_nil hs hl m).2
  have ix : ∀ m, ixA (.lst (.str s :: r)) (.int 0) m = some (.str s, m) := fun m => ixA_lst (atI_of (by decide) rfl)
  simp [D_law_0_2_2_5, h, h1, ix]
theorem q0_ok (hf : f.Ok) (hn : f.n ≤ 8) (hk : KOk ks) (hH : f.Has ks) (hd : m[d]? = some (.dic ks)) (e0 e1 e2 e3 e4 e5 e6 e7 e10 e11 e12 e13 e14 e15 e16 e17 e18 : Option Vl) : D_law_0_2_2_6_0 [e0, e1, e2, e3, e4, e5, e6, e7, some f.v, some (.obj d), e10, e11, e12, e13, e14, e15, e16, e17, e18] m = some (.nx [e0, e1, e2, e3, e4, e5, e6, e7, some f.v, some (.obj d), e10, e11, e12, e13, e14, some (f.put ks).v, e16, e17, e18], m) := by
  have h : c_law_put_in_2 [f.v, .obj d] [] m = some (.ok (f.put ks).v, m) := lput_ok hk hd 40 f hf hH (by have := (Fo.dp_le hf).1; omega)
  simp [D_law_0_2_2_6_0, h]
theorem q1_ok (hl : ks.length ≤ 6) (hd : m[d]? = some (.dic ks)) (e0 e1 e2 e3 e4 e5 e6 e7 e8 e10 e11 e12 e13 e14 e15 e16 e17 e18 : Option Vl) : D_law_0_2_2_6_1 [e0, e1, e2, e3, e4, e5, e6, e7, e8, some (.obj d), e10, e11, e12, e13, e14, e15, e16, e17, e18] m = some (.nx [e0, e1, e2, e3, e4, e5, e6, e7, e8, some (.obj d), e10, e11, e12, e13, e14, e15, e16, e17, e18], m.set d (.dic (putZ ks (.inr "v") (.int 400)))) := put_z (v := .int 400) rfl rfl rfl hd (by omega)
theorem q2_ok {g : Fo} (hg : g.Ok) (hn : g.n ≤ 8) (hc : g.nms = []) (e0 e1 e2 e3 e4 e5 e6 e7 e8 e9 e10 e11 e12 e14 e16 e17 e18 : Option Vl) : ∃ ext : Mem, D_law_0_2_2_6_2 [e0, e1, e2, e3, e4, e5, e6, e7, e8, e9, e10, e11, e12, some (filV g.v), e14, some g.v, e16, e17, e18] m = some (.nx [e0, e1, e2, e3, e4, e5, e6, e7, e8, e9, e10, e11, e12, some (filV g.v), e14, some g.v, e16, e17, e18], m ++ ext) := by
  have r := repr_fo hg (by omega) m
  obtain ⟨ext, e⟩ := prm_i hg (by omega) m
  rw [hc] at e
  have e : G_Filter_parameters [filV g.v] m = some (.ok (.lst []), m ++ ext) := e
  have q := meth0_fil (mn := "parameters") (g := G_Filter_parameters) (v := g.v) (de := dVar 13) (env := [e0, e1, e2, e3, e4, e5, e6, e7, e8, e9, e10, e11, e12, some (filV g.v), e14, some g.v, e16, e17, e18]) (m := m) (by decide +kernel) rfl e
  have f1 : ∀ m, dFld ["Filter"] "form" (dVar 13) [e0, e1, e2, e3, e4, e5, e6, e7, e8, e9, e10, e11, e12, some (filV g.v), e14, some g.v, e16, e17, e18] m = some (.ok g.v, m) := fun m => rfl
  have h1 := (lst_nil (L := []) (fun _ h => absurd h List.not_mem_nil) (by decide) (m ++ ext)).2
  exact ⟨ext, by simp [D_law_0_2_2_6_2, -dFld_ap, f1, r, q, h1]⟩
theorem q3_ok (hb : Bag ns n m) (e0 e1 e3 e4 e5 e6 e7 e8 e9 e10 e11 e12 e13 e14 e15 e16 e17 e18 : Option Vl) : ∃ (q a b : Int) (m' : Mem), Row q a b ∧ D_law_0_2_2_6_3 [e0, e1, some (.obj n), e3, e4, e5, e6, e7, e8, e9, e10, e11, e12, e13, e14, e15, e16, e17, e18] m = some (.nx [e0, e1, some (.obj n), e3, e4, e5, e6, e7, e8, e9, e10, e11, e12, e13, e14, e15, some (.tup [.int q, .int a, .int b]), e17, e18], m') ∧ Fr ns n m m' := by
  obtain ⟨q, m1, q0, q1, c1, F1⟩ := cell_i hb
  obtain ⟨a, m2, a0, a1, c2, F2⟩ := cell_i F1.bag
  obtain ⟨b, m3, b0, b1, c3, F3⟩ := cell_i F2.bag
  have z3 : (3 : Nat) ≤ sizeLine := le_size (by decide)
  exact ⟨q, a, b, m3, ⟨⟨q0, q1⟩, ⟨a0, a1⟩, ⟨b0, b1⟩⟩, by simp [D_law_0_2_2_6_3, c1, c2, c3, z3], (F1.trans F2).trans F3⟩
theorem q4_ok {q a b : Int} (hf : f.Ok) (hn : f.n ≤ 8) (hk : KOk ks) (hH : f.Has ks) (hr : Row q a b) (e0 e1 e2 e3 e4 e6 e8 e9 e10 e11 e12 e14 e17 e18 : Option Vl) : ∃ ext : Mem, D_law_0_2_2_6_4 [e0, e1, e2, e3, e4, some (.lst (met f)), e6, some (filV f.v), e8, e9, e10, e11, e12, some (filV (f.put ks).v), e14, some (f.put ks).v, some (.tup [.int q, .int a, .int b]), e17, e18] m = some (.nx [e0, e1, e2, e3, e4, some (.lst (met f)), e6, some (filV f.v), e8, e9, e10, e11, e12, some (filV (f.put ks).v), e14, some (f.put ks).v, some (.tup [.int q, .int a, .int b]), e17, e18], m ++ ext) := by
  obtain ⟨g1, g2⟩ := Fo.put_ok hk hf hH
  have gn := Fo.put_n ks f
  obtain ⟨ext, e⟩ := call_row g1 (by omega) g2 hr m
  have c := icall_fil (de := dVar 13) (da := dVar 16) (e := [e0, e1, e2, e3, e4, some (.lst (met f)), e6, some (filV f.v), e8, e9, e10, e11, e12, some (filV (f.put ks).v), e14, some (f.put ks).v, some (.tup [.int q, .int a, .int b]), e17, e18]) rfl rfl e
  have t : c_law_takes_2 [(f.put ks).v, .tup [.int q, .int a, .int b]] [] (m ++ ext) = some (.ok (.bl ((f.put ks).tk a b)), m ++ ext) := lawtakes_ok q a b 40 _ _ g1 (Fo.cl_of g2) (by have := (Fo.dp_le g1).1; omega)
  obtain ⟨S, hS⟩ := repr_bl ((f.put ks).tk a b)
  have he := eq_fo g1 hf (by omega) (by omega) (m ++ ext)
  rw [same_form hk hf hH] at he
  have hc := cmp_fil (da := dVar 13) (db := dVar 7) (env := [e0, e1, e2, e3, e4, some (.lst (met f)), e6, some (filV f.v), e8, e9, e10, e11, e12, some (filV (f.put ks).v), e14, some (f.put ks).v, some (.tup [.int q, .int a, .int b]), e17, e18]) (m := m ++ ext) rfl rfl (fil_eq he)
  have h2 := (lst_nil (L := met f) (fun x hx => sv_good (met_ok hf x hx).1) (by have := met_len f; omega) (m ++ ext)).1
  have h3 := ne_bl (met f).isEmpty (m ++ ext)
  exact ⟨ext, by simp only [D_law_0_2_2_6_4, dIfS_ap, tOr2_ap, b2_ap, dB_ap, dCons_ap, c, bindR_ok, hS, okR_s, dCall_ap, dVar_s, dVar_z, dNone_ap, List.length_cons, List.length_nil, Nat.zero_add, Nat.reduceAdd, and_self, if_true, t, neF_str, beq_self_eq_true, Bool.not_true, Bool.false_eq_true, if_false, hc, d2_ap, dFrz_ap, dLst_ap, Nat.zero_le, h2, h3, bindS_ok, dNil_ap]⟩
theorem q5_ok (hf : f.Ok) (hn : f.n ≤ 8) (hk : KOk ks) (hh : (met f).find? (lack ks) = none) (hd : m[d]? = some (.dic ks)) (e0 e1 e2 e3 e4 e5 e6 e10 e11 e12 e13 e14 e15 e16 e17 e18 : Option Vl) : ∃ ext : Mem, D_law_0_2_2_6_5 [e0, e1, e2, e3, e4, e5, e6, some (filV f.v), some f.v, some (.obj d), e10, e11, e12, e13, e14, e15, e16, e17, e18] m = some (.nx [e0, e1, e2, e3, e4, e5, e6, some (filV f.v), some f.v, some (.obj d), e10, e11, e12, e13, e14, e15, e16, e17, e18], m ++ ext) := by
  have cp : dB copyK (dCons (dVar 9) (fun _ m => some (.ok [], m))) [e0, e1, e2, e3, e4, e5, e6, some (filV f.v), some f.v, some (.obj d), e10, e11, e12, e13, e14, e15, e16, e17, e18] m = some (.ok (.obj m.length), m ++ [.dic ks]) := by
    have : copyK [.obj d] m = some (.obj m.length, m ++ [.dic ks]) := by
      unfold copyK
      simp only [dicD_obj hd]
    simp [this]
  have hp : (m ++ [Cell.dic ks])[m.length]? = some (.dic ks) := by simp
  obtain ⟨hH, x1, c1⟩ := bound_free hf hn hk hp hh
  obtain ⟨g1, g2⟩ := Fo.put_ok hk hf hH
  have gn := Fo.put_n ks f
  have m1 := methK_fil (mn := "bound") (g := G_Filter_bound) (de := dVar 7) (da := dB copyK (dCons (dVar 9) (fun _ m => some (.ok [], m)))) (env := [e0, e1, e2, e3, e4, e5, e6, some (filV f.v), some f.v, some (.obj d), e10, e11, e12, e13, e14, e15, e16, e17, e18]) (m := m) (by decide +kernel) rfl cp c1
  have hp2 : (m ++ [Cell.dic ks] ++ x1 ++ [Cell.dic []])[(m ++ [Cell.dic ks] ++ x1).length]? = some (.dic []) := by simp
  obtain ⟨_, x2, c2⟩ := bound_free g1 (by omega) kok_nil hp2 (by rw [(met_nil g1).mpr g2]; rfl)
  rw [Fo.put_id g1 (Fo.cl_of g2)] at c2
  have m2 := meth1_fil (mn := "bound") (g := G_Filter_bound) (da := dNewK) (by decide +kernel) m1 (by rw [dNewK_ap]) c2
  have m3 := fld_fil m2
  have hd3 : (m ++ [Cell.dic ks] ++ x1 ++ [Cell.dic []] ++ x2)[d]? = some (.dic ks) := by
    rw [List.append_assoc, List.append_assoc, List.append_assoc, List.getElem?_append_left (getlt hd)]
    exact hd
  have h : c_law_put_in_2 [f.v, .obj d] [] (m ++ [Cell.dic ks] ++ x1 ++ [Cell.dic []] ++ x2) = some (.ok (f.put ks).v, m ++ [Cell.dic ks] ++ x1 ++ [Cell.dic []] ++ x2) := lput_ok hk hd3 40 f hf hH (by have := (Fo.dp_le hf).1; omega)
  have he := eq_fo g1 g1 (by omega) (by omega) (m ++ [Cell.dic ks] ++ x1 ++ [Cell.dic []] ++ x2)
  rw [(eqv_fo g1 g1).mpr rfl] at he
  have run : D_law_0_2_2_6_5 [e0, e1, e2, e3, e4, e5, e6, some (filV f.v), some f.v, some (.obj d), e10, e11, e12, e13, e14, e15, e16, e17, e18] m = some (.nx [e0, e1, e2, e3, e4, e5, e6, some (filV f.v), some f.v, some (.obj d), e10, e11, e12, e13, e14, e15, e16, e17, e18], m ++ [Cell.dic ks] ++ x1 ++ [Cell.dic []] ++ x2) := by
    simp only [D_law_0_2_2_6_5, dIfS_ap, tNot1_ap, b2_ap, m3, bindR_ok, dCall_ap, dCons_ap, dVar_s, dVar_z, dNone_ap, List.length_cons, List.length_nil, Nat.zero_add, Nat.reduceAdd, and_self, if_true, h, he, okR_s, bindS_ok, Bool.not_true, Bool.false_eq_true, if_false, dNil_ap]
  refine ⟨[Cell.dic ks] ++ x1 ++ [Cell.dic []] ++ x2, ?_⟩
  rw [run]
  simp only [List.append_assoc]
theorem p7_ok (hf : f.Ok) (hn : f.n ≤ 8) (e0 e1 e2 e3 e4 e5 e6 e9 e10 e11 e12 e13 e14 e15 e16 e17 e18 : Option Vl) : D_law_0_2_2_7 [e0, e1, e2, e3, e4, e5, e6, some (filV f.v), some f.v, e9, e10, e11, e12, e13, e14, e15, e16, e17, e18] m = some (.nx [e0, e1, e2, e3, e4, e5, e6, some (filV f.v), some f.v, e9, e10, e11, e12, e13, e14, e15, e16, e17, e18], m) := by
  have r := repr_fo hf (by omega) m
  have f1 : ∀ m, dFld ["Filter"] "form" (dVar 7) [e0, e1, e2, e3, e4, e5, e6, some (filV f.v), some f.v, e9, e10, e11, e12, e13, e14, e15, e16, e17, e18] m = some (.ok f.v, m) := fun m => rfl
  simp [D_law_0_2_2_7, -dFld_ap, f1, r]
end
def placeD : DS := dSeq D_law_0_2_2_0 (dSeq D_law_0_2_2_1 (dSeq D_law_0_2_2_2 (dSeq D_law_0_2_2_3 (dSeq D_law_0_2_2_4 (dSeq D_law_0_2_2_5 (dSeq D_law_0_2_2_6 D_law_0_2_2_7))))))
section
variable {ns : List Int} {n : Nat} {m : Mem} {f : Fo} {d : Nat} {ks : List (Key × Vl)}
theorem p6a_ok (hb : Bag ns n m) (hdn : d ≠ n) (hf : f.Ok) (hn : f.n ≤ 8) (hk : KOk ks) (hl : ks.length ≤ 6) (hd : m[d]? = some (.dic ks)) (hh : (met f).find? (lack ks) = none) (pl : Int) (e0 e1 e4 e10 e12 e14 e15 e16 e17 e18 : Option Vl) : ∃ f15 f16 m', D_law_0_2_2_6 [e0, e1, some (.obj n), some (.lst NS), e4, some (.lst (met f)), some (.int pl), some (filV f.v), some f.v, some (.obj d), e10, some (.lst []), e12, some (filV (f.put ks).v), e14, e15, e16, e17, e18] m = some (.nx [e0, e1, some (.obj n), some (.lst NS), e4, some (.lst (met f)), some (.int pl), some (filV f.v), some f.v, some (.obj d), e10, some (.lst []), e12, some (filV (f.put ks).v), e14, f15, f16, e17, e18], m') ∧ Bag ns n m' := by
  have hH : f.Has ks := (bound_free hf hn hk hd hh).1
  obtain ⟨g1, g2⟩ := Fo.put_ok hk hf hH
  have gn := Fo.put_n ks f
  have t0 := q0_ok hf hn hk hH hd (e0) (e1) (some (.obj n)) (some (.lst NS)) (e4) (some (.lst (met f))) (some (.int pl)) (some (filV f.v)) (e10) (some (.lst [])) (e12) (some (filV (f.put ks).v)) (e14) (e15) (e16) (e17) (e18)
  have t1 := q1_ok hl hd (e0) (e1) (some (.obj n)) (some (.lst NS)) (e4) (some (.lst (met f))) (some (.int pl)) (some (filV f.v)) (some f.v) (e10) (some (.lst [])) (e12) (some (filV (f.put ks).v)) (e14) (some (f.put ks).v) (e16) (e17) (e18)
  have k2 : KOk (putZ ks (.inr "v") (.int 400)) := kok_put hk (by
    obtain ⟨s, e, h⟩ := ns_nm (.str "v") (by simp)
    cases e
    exact h) ⟨400, rfl, by decide, by decide⟩
  have d2 : (m.set d (.dic (putZ ks (.inr "v") (.int 400))))[d]? = some (.dic (putZ ks (.inr "v") (.int 400))) := get_set hd
  have b2 := hb.set hdn (.dic (putZ ks (.inr "v") (.int 400)))
  obtain ⟨x2, t2⟩ := q2_ok (m := m.set d (.dic (putZ ks (.inr "v") (.int 400)))) g1 (by omega) g2 (e0) (e1) (some (.obj n)) (some (.lst NS)) (e4) (some (.lst (met f))) (some (.int pl)) (some (filV f.v)) (some f.v) (some (.obj d)) (e10) (some (.lst [])) (e12) (e14) (e16) (e17) (e18)
  obtain ⟨q, a, b, m3, hr, t3, F3⟩ := q3_ok (b2.app x2) (e0) (e1) (some (.lst NS)) (e4) (some (.lst (met f))) (some (.int pl)) (some (filV f.v)) (some f.v) (some (.obj d)) (e10) (some (.lst [])) (e12) (some (filV (f.put ks).v)) (e14) (some (f.put ks).v) (e16) (e17) (e18)
  obtain ⟨x4, t4⟩ := q4_ok (m := m3) hf hn hk hH hr (e0) (e1) (some (.obj n)) (some (.lst NS)) (e4) (some (.int pl)) (some f.v) (some (.obj d)) (e10) (some (.lst [])) (e12) (e14) (e17) (e18)
  have d4 := at_app (F3.at (at_app d2 x2) hdn) x4
  obtain ⟨x5, t5⟩ := q5_ok (m := m3 ++ x4) hf hn k2 (find_put hh) d4 (e0) (e1) (some (.obj n)) (some (.lst NS)) (e4) (some (.lst (met f))) (some (.int pl)) (e10) (some (.lst [])) (e12) (some (filV (f.put ks).v)) (e14) (some (f.put ks).v) (some (.tup [.int q, .int a, .int b])) (e17) (e18)
  have h0 := (lst_nil (L := []) (fun _ h => absurd h List.not_mem_nil) (by decide) m).1
  refine ⟨some (f.put ks).v, some (.tup [.int q, .int a, .int b]), m3 ++ x4 ++ x5, ?_, (F3.bag.app x4).app x5⟩
  have hc : D_law_0_2_2_6 [e0, e1, some (.obj n), some (.lst NS), e4, some (.lst (met f)), some (.int pl), some (filV f.v), some f.v, some (.obj d), e10, some (.lst []), e12, some (filV (f.put ks).v), e14, e15, e16, e17, e18] m = dSeq D_law_0_2_2_6_0 (dSeq D_law_0_2_2_6_1 (dSeq D_law_0_2_2_6_2 (dSeq D_law_0_2_2_6_3 (dSeq D_law_0_2_2_6_4 D_law_0_2_2_6_5)))) [e0, e1, some (.obj n), some (.lst NS), e4, some (.lst (met f)), some (.int pl), some (filV f.v), some f.v, some (.obj d), e10, some (.lst []), e12, some (filV (f.put ks).v), e14, e15, e16, e17, e18] m := by
    simp only [D_law_0_2_2_6, dIfS_ap, b2_ap, dVar_s, dVar_z, bindR_ok, dFrz_ap, dLst_ap, List.length_nil, Nat.zero_le, if_true, h0, okR_s, bindS_ok, List.isEmpty_nil]
  rw [hc, dSeq_ap, t0, thenS_nx, dSeq_ap, t1, thenS_nx, dSeq_ap, t2, thenS_nx, dSeq_ap, t3, thenS_nx, dSeq_ap, t4, thenS_nx, t5]
theorem p6b_ok {s : Str} {r : List Vl} (hs : ∀ x ∈ Vl.str s :: r, Sv x) (hl : (Vl.str s :: r).length ≤ 100) (e0 e1 e2 e3 e4 e5 e6 e7 e8 e9 e10 e12 e13 e14 e15 e16 e17 e18 : Option Vl) : D_law_0_2_2_6 [e0, e1, e2, e3, e4, e5, e6, e7, e8, e9, e10, some (.lst (.str s :: r)), e12, e13, e14, e15, e16, e17, e18] m = some (.nx [e0, e1, e2, e3, e4, e5, e6, e7, e8, e9, e10, some (.lst (.str s :: r)), e12, e13, e14, e15, e16, e17, e18], m) := by
  have h0 := (lst_nil hs hl m).1
  simp [D_law_0_2_2_6, h0]
theorem place_ok (hb : Bag ns n m) (hf : f.Ok) (hn : f.n ≤ 8) (pl : Int) (e0 e1 e4 e9 e10 e11 e12 e13 e14 e15 e16 e17 e18 : Option Vl) : ∃ f9 f10 f11 f12 f13 f14 f15 f16 m', placeD [e0, e1, some (.obj n), some (.lst NS), e4, some (.lst (met f)), some (.int pl), some (filV f.v), some f.v, e9, e10, e11, e12, e13, e14, e15, e16, e17, e18] m = some (.nx [e0, e1, some (.obj n), some (.lst NS), e4, some (.lst (met f)), some (.int pl), some (filV f.v), some f.v, f9, f10, f11, f12, f13, f14, f15, f16, e17, e18], m') ∧ Bag ns n m' := by
  have hlt := hb.lt
  have t0 : D_law_0_2_2_0 [e0, e1, some (.obj n), some (.lst NS), e4, some (.lst (met f)), some (.int pl), some (filV f.v), some f.v, e9, e10, e11, e12, e13, e14, e15, e16, e17, e18] m = some (.nx [e0, e1, some (.obj n), some (.lst NS), e4, some (.lst (met f)), some (.int pl), some (filV f.v), some f.v, some (.obj m.length), e10, e11, e12, e13, e14, e15, e16, e17, e18], m ++ [.dic []]) := by simp [D_law_0_2_2_0]
  have hdn : m.length ≠ n := by omega
  obtain ⟨ks, f10, m1, t1, B1, hd, hk, hl⟩ := p1_ok (hb.app [.dic []]) (d := m.length) (by simp) hdn pl (e0) (e1) (e4) (some (.lst (met f))) (some (filV f.v)) (some f.v) (e10) (e11) (e12) (e13) (e14) (e15) (e16) (e17) (e18)
  obtain ⟨S, hS⟩ := repr_dic hk (by omega)
  have t2 := p2_ok hf hn hd (e0) (e1) (some (.obj n)) (some (.lst NS)) (e4) (some (.int pl)) (some (filV f.v)) (some f.v) (f10) (e11) (e12) (e13) (e14) (e15) (e16) (e17) (e18)
  cases hh : (met f).find? (lack ks) with
  | none =>
    have hfl : (met f).filter (lack ks) = [] := List.filter_eq_nil_iff.mpr (List.find?_eq_none.mp hh)
    rw [hfl] at t2
    have t3 := p3_ok hd hS (e0) (e1) (some (.obj n)) (some (.lst NS)) (e4) (some (.lst (met f))) (some (.int pl)) (some (filV f.v)) (some f.v) (f10) (some (.lst [])) (e12) (e13) (e14) (e15) (e16) (e17) (e18)
    obtain ⟨x4, t4⟩ := p4a_ok hf hn hk hd hh (e0) (e1) (some (.obj n)) (some (.lst NS)) (e4) (some (.lst (met f))) (some (.int pl)) (some f.v) (f10) (some (.lst [])) (some (.str S)) (e13) (e14) (e15) (e16) (e17) (e18)
    have hd4 := at_app hd x4
    have t5 := p5a_ok hd4 hS (e0) (e1) (some (.obj n)) (some (.lst NS)) (e4) (some (.lst (met f))) (some (.int pl)) (some (filV f.v)) (some f.v) (f10) (some (filV (f.put ks).v)) (e15) (e16) (e17) (e18)
    obtain ⟨f15, f16, m6, t6, B6⟩ := p6a_ok (B1.app x4) hdn hf hn hk hl hd4 hh pl (e0) (e1) (e4) (f10) (some (.str S)) (some .non) (e15) (e16) (e17) (e18)
    have t7 := p7_ok (m := m6) hf hn (e0) (e1) (some (.obj n)) (some (.lst NS)) (e4) (some (.lst (met f))) (some (.int pl)) (some (.obj m.length)) (f10) (some (.lst [])) (some (.str S)) (some (filV (f.put ks).v)) (some .non) (f15) (f16) (e17) (e18)
    refine ⟨some (.obj m.length), f10, some (.lst []), some (.str S), some (filV (f.put ks).v), some .non, f15, f16, m6, ?_, B6⟩
    unfold placeD
    rw [dSeq_ap, t0, thenS_nx, dSeq_ap, t1, thenS_nx, dSeq_ap, t2, thenS_nx, dSeq_ap, t3, thenS_nx, dSeq_ap, t4, thenS_nx, dSeq_ap, t5, thenS_nx, dSeq_ap, t6, thenS_nx, t7]
  | some x =>
    obtain ⟨r, hfl⟩ : ∃ r, (met f).filter (lack ks) = x :: r := by
      have e := List.head?_filter (l := met f) (p := lack ks)
      rw [hh] at e
      cases hq : (met f).filter (lack ks) with
      | nil =>
        rw [hq] at e
        cases e
      | cons y r =>
        rw [hq] at e
        cases e
        exact ⟨r, rfl⟩
    have hG : ∀ y ∈ x :: r, Sv y := fun y hy => by
      rw [← hfl] at hy
      exact sv_good (met_ok hf y (List.mem_filter.mp hy).1).1
    have hL : (x :: r).length ≤ 100 := by
      rw [← hfl]
      have := List.length_filter_le (lack ks) (met f)
      have := met_len f
      omega
    obtain ⟨s, rfl⟩ : ∃ s, x = .str s := by
      obtain ⟨h1, h2⟩ := met_ok hf x (List.mem_of_find?_eq_some hh)
      cases h1 with
      | int i _ _ => cases h2
      | str s _ => exact ⟨s, rfl⟩
    rw [hfl] at t2
    have t3 := p3_ok hd hS (e0) (e1) (some (.obj n)) (some (.lst NS)) (e4) (some (.lst (met f))) (some (.int pl)) (some (filV f.v)) (some f.v) (f10) (some (.lst (.str s :: r))) (e12) (e13) (e14) (e15) (e16) (e17) (e18)
    obtain ⟨x4, t4⟩ := p4b_ok hf hn hd hh (e0) (e1) (some (.obj n)) (some (.lst NS)) (e4) (some (.lst (met f))) (some (.int pl)) (some f.v) (f10) (some (.lst (.str s :: r))) (some (.str S)) (e13) (e14) (e15) (e16) (e17) (e18)
    have hd4 := at_app hd x4
    have t5 := p5b_ok hG hL hd4 hS (e0) (e1) (some (.obj n)) (some (.lst NS)) (e4) (some (.lst (met f))) (some (.int pl)) (some (filV f.v)) (some f.v) (f10) (some .non) (e15) (e16) (e17) (e18)
    have t6 := p6b_ok (m := m1 ++ x4) hG hL (e0) (e1) (some (.obj n)) (some (.lst NS)) (e4) (some (.lst (met f))) (some (.int pl)) (some (filV f.v)) (some f.v) (some (.obj m.length)) (f10) (some (.str S)) (some .non) (some (.str s)) (e15) (e16) (e17) (e18)
    have t7 := p7_ok (m := m1 ++ x4) hf hn (e0) (e1) (some (.obj n)) (some (.lst NS)) (e4) (some (.lst (met f))) (some (.int pl)) (some (.obj m.length)) (f10) (some (.lst (.str s :: r))) (some (.str S)) (some .non) (some (.str s)) (e15) (e16) (e17) (e18)
    refine ⟨some (.obj m.length), f10, some (.lst (.str s :: r)), some (.str S), some .non, some (.str s), e15, e16, m1 ++ x4, ?_, B1.app x4⟩
    unfold placeD
    rw [dSeq_ap, t0, thenS_nx, dSeq_ap, t1, thenS_nx, dSeq_ap, t2, thenS_nx, dSeq_ap, t3, thenS_nx, dSeq_ap, t4, thenS_nx, dSeq_ap, t5, thenS_nx, dSeq_ap, t6, thenS_nx, t7]
end
def stepD : DS := dSeq D_law_0_2_0 (dSeq D_law_0_2_1 D_law_0_2_2)
theorem pos_int {x : Vl} : ∀ {n : Nat} {a : Int}, x ∈ intsZ a n → ∃ t : Int, a ≤ t ∧ x = .int t := by
  intro n a h
  unfold intsZ at h
  obtain ⟨i, _, rfl⟩ := List.mem_map.mp h
  exact ⟨_, by omega, rfl⟩
theorem step_ok {ns : List Int} {n : Nat} {m : Mem} (hb : Bag ns n m) (e0 e1 e4 e5 e6 e7 e8 e9 e10 e11 e12 e13 e14 e15 e16 e17 e18 : Option Vl) : ∃ f5 f6 f7 f8 f9 f10 f11 f12 f13 f14 f15 f16 m', stepD [e0, e1, some (.obj n), some (.lst NS), e4, e5, e6, e7, e8, e9, e10, e11, e12, e13, e14, e15, e16, e17, e18] m = some (.nx [e0, e1, some (.obj n), some (.lst NS), e4, f5, f6, f7, f8, f9, f10, f11, f12, f13, f14, f15, f16, e17, e18], m') ∧ Bag ns n m' := by
  obtain ⟨z, m1, z0, z1, c1, F1⟩ := draw_i hb 8 (by decide) (by decide)
  obtain ⟨i, m2, i0, i1, c2, F2⟩ := cell_i F1.bag
  have ad := addA_lsts (a := NS) (b := [.int 0, .int i]) (m := m2) (le_size (by show 6 ≤ 1000; decide))
  have hT : ∀ x ∈ NS ++ [.int 0, .int i], Good x := fun x hx => by
    rcases List.mem_append.mp hx with hx | hx
    · obtain ⟨s, rfl, hs⟩ := ns_nm x (List.mem_append_left _ hx)
      exact .str s hs
    · simp only [List.mem_cons, List.not_mem_nil, or_false] at hx
      rcases hx with rfl | rfl
      · exact .int 0 (by decide) (by decide)
      · exact .int i i0 i1
  obtain ⟨f, m3, hf, hfn, c3, F3⟩ := chosen_ok F2.bag hT (by simp) (by simp) (1 + z) (by omega) (by omega)
  have hn : f.n ≤ 8 := by omega
  unfold pr at c3
  have c3 : c_law_chosen_3 [.obj n, .int (1 + z), .lst [.str "v", .str "all", .str "vv", .str "a", .int 0, .int i]] [] m2 = some (.ok (.tup [filV f.v, f.v]), m3) := c3
  have ad : addA (.lst NS) (.lst [.int 0, .int i]) m2 = some (.lst [.str "v", .str "all", .str "vv", .str "a", .int 0, .int i], m2) := ad
  have t0 : D_law_0_2_0 [e0, e1, some (.obj n), some (.lst NS), e4, e5, e6, e7, e8, e9, e10, e11, e12, e13, e14, e15, e16, e17, e18] m = some (.nx [e0, e1, some (.obj n), some (.lst NS), e4, e5, e6, some (filV f.v), some f.v, e9, e10, e11, e12, e13, e14, e15, e16, e17, e18], m3) := by simp [D_law_0_2_0, c1, c2, ad, c3, gTupD]
  have B3 := F3.bag
  have hl := f.prs_len
  have c4 := pairs_call hf (by omega) m3
  have hg' : ∀ x ∈ f.nms, Good x := nms_good hf
  have hnl := nms_len f
  have c5 := once_call ni_good hg' (by omega) (fun x hx => clo_good (hg' x hx) 0) (fun x hx b m => cnv_good (hg' x hx) b 28 m) m3
  have c5 : h_law_once_1 [.lst f.nms] [] m3 = some (.ok (.lst (met f)), m3) := c5
  have hlc := lcZ_filt (g := gcVar 17) (dt := tTr (dB (isiF csZ (kitT kitL)) (dCons (d2 ixA (dVar 17) (dC (.int 1))) (dCons (dC (.ty "str")) (fun _ m => some (.ok [], m)))))) (de := d2 ixA (dVar 17) (dC (.int 1))) (env := [e0, e1, some (.obj n), some (.lst NS), e4, e5, e6, some (filV f.v), some f.v, e9, e10, e11, e12, e13, e14, e15, e16, none, e18]) (m := m3) (p := fun x => match x with
      | .tup [_, t] => isStr t
      | _ => false) (f := fun x => match x with
      | .tup [_, t] => t
      | _ => .non) (ys := f.prs.map pv) (fun x hx => by
    obtain ⟨p, hp, rfl⟩ := List.mem_map.mp hx
    have ix : ∀ m, ixA (pv p) (.int 1) m = some (p.2, m) := fun m => ixA_tup (atI_of (by decide) rfl)
    refine ⟨[e0, e1, some (.obj n), some (.lst NS), e4, e5, e6, some (filV f.v), some f.v, e9, e10, e11, e12, e13, e14, e15, e16, some (pv p), e18], rfl, ?_, ?_⟩
    · simp [ix, isi_good (Fo.prs_ok hf p hp).2]
      rfl
    · simp [ix]
      rfl)
  have hout : ((f.prs.map pv).filter fun x => match x with
      | .tup [_, t] => isStr t
      | _ => false).map (fun x => match x with
      | .tup [_, t] => t
      | _ => .non) = f.nms := by
    rw [List.filter_map]
    unfold Fo.nms
    rw [List.filter_map, List.map_map]
    rfl
  rw [hout] at hlc
  have sz : f.prs.length ≤ sizeLine := le_size (by omega)
  have t1 : D_law_0_2_1 [e0, e1, some (.obj n), some (.lst NS), e4, e5, e6, some (filV f.v), some f.v, e9, e10, e11, e12, e13, e14, e15, e16, e17, e18] m3 = some (.nx [e0, e1, some (.obj n), some (.lst NS), e4, some (.lst (met f)), e6, some (filV f.v), some f.v, e9, e10, e11, e12, e13, e14, e15, e16, e17, e18], m3) := by
    simp [D_law_0_2_1, wipeE, c4, sz, hlc, c5]
  have r : rng1 [.int 3] = some (intsZ 0 3) := rng_i 3 (by decide) (by decide)
  obtain ⟨env', m', hf', hB, f6, f9, f10, f11, f12, f13, f14, f15, f16, rfl⟩ := forL_inv (g := gVar 6) (body := placeD) (P := fun env mm => Bag ns n mm ∧ ∃ f6 f9 f10 f11 f12 f13 f14 f15 f16, env = [e0, e1, some (.obj n), some (.lst NS), e4, some (.lst (met f)), f6, some (filV f.v), some f.v, f9, f10, f11, f12, f13, f14, f15, f16, e17, e18]) (xs := intsZ 0 3) (env := [e0, e1, some (.obj n), some (.lst NS), e4, some (.lst (met f)), e6, some (filV f.v), some f.v, e9, e10, e11, e12, e13, e14, e15, e16, e17, e18]) (m := m3) ⟨B3, _, _, _, _, _, _, _, _, _, rfl⟩ (by
    rintro x hx env mm ⟨hb, f6, f9, f10, f11, f12, f13, f14, f15, f16, rfl⟩
    obtain ⟨pl, _, rfl⟩ := pos_int hx
    obtain ⟨g9, g10, g11, g12, g13, g14, g15, g16, m2, q1, q2⟩ := place_ok hb hf hn pl (e0) (e1) (e4) (f9) (f10) (f11) (f12) (f13) (f14) (f15) (f16) (e17) (e18)
    exact ⟨_, _, _, m2, rfl, q1, q2, _, _, _, _, _, _, _, _, _, rfl⟩)
  have t2 : D_law_0_2_2 [e0, e1, some (.obj n), some (.lst NS), e4, some (.lst (met f)), e6, some (filV f.v), some f.v, e9, e10, e11, e12, e13, e14, e15, e16, e17, e18] m3 = some (.nx [e0, e1, some (.obj n), some (.lst NS), e4, some (.lst (met f)), f6, some (filV f.v), some f.v, f9, f10, f11, f12, f13, f14, f15, f16, e17, e18], m') := by
    rw [show D_law_0_2_2 = dFor (iRg1 (dCons (dC (.int 3)) (fun _ m => some (.ok [], m)))) (gVar 6) placeD from rfl, dFor_ap]
    simp only [iRg1_ap, dCons_ap, dC_ap, bindR_ok, r, bindS_ok]
    exact hf'
  refine ⟨some (.lst (met f)), f6, some (filV f.v), some f.v, f9, f10, f11, f12, f13, f14, f15, f16, m', ?_, hB⟩
  unfold stepD
  rw [dSeq_ap, t0, thenS_nx, dSeq_ap, t1, thenS_nx, t2]
theorem steps_ok {ns : List Int} {n : Nat} {m : Mem} (hb : Bag ns n m) (e0 e1 e4 e5 e6 e7 e8 e9 e10 e11 e12 e13 e14 e15 e16 e17 e18 : Option Vl) : ∃ f4 f5 f6 f7 f8 f9 f10 f11 f12 f13 f14 f15 f16 m', D_law_0_2 [e0, e1, some (.obj n), some (.lst NS), e4, e5, e6, e7, e8, e9, e10, e11, e12, e13, e14, e15, e16, e17, e18] m = some (.nx [e0, e1, some (.obj n), some (.lst NS), f4, f5, f6, f7, f8, f9, f10, f11, f12, f13, f14, f15, f16, e17, e18], m') := by
  obtain ⟨kv, m1, hk, c1, F1⟩ := pick_i hb [.int 1, .int 2, .int 4] (by decide) (by decide)
  obtain ⟨k, rfl, k0, k1⟩ : ∃ k : Int, kv = .int k ∧ 0 ≤ k ∧ k < 100 := by
    simp only [List.mem_cons, List.not_mem_nil, or_false] at hk
    rcases hk with rfl | rfl | rfl
    · exact ⟨_, rfl, by decide, by decide⟩
    · exact ⟨_, rfl, by decide, by decide⟩
    · exact ⟨_, rfl, by decide, by decide⟩
  have r := rng_i k k1 k0
  obtain ⟨env', m', hf, hB, f4, f5, f6, f7, f8, f9, f10, f11, f12, f13, f14, f15, f16, rfl⟩ := forL_inv (g := gVar 4) (body := stepD) (P := fun env mm => Bag ns n mm ∧ ∃ f4 f5 f6 f7 f8 f9 f10 f11 f12 f13 f14 f15 f16, env = [e0, e1, some (.obj n), some (.lst NS), f4, f5, f6, f7, f8, f9, f10, f11, f12, f13, f14, f15, f16, e17, e18]) (xs := intsZ 0 k.toNat) (env := [e0, e1, some (.obj n), some (.lst NS), e4, e5, e6, e7, e8, e9, e10, e11, e12, e13, e14, e15, e16, e17, e18]) (m := m1) ⟨F1.bag, _, _, _, _, _, _, _, _, _, _, _, _, _, rfl⟩ (by
    rintro x hx env mm ⟨hb, f4, f5, f6, f7, f8, f9, f10, f11, f12, f13, f14, f15, f16, rfl⟩
    obtain ⟨g5, g6, g7, g8, g9, g10, g11, g12, g13, g14, g15, g16, m2, q1, q2⟩ := step_ok hb (e0) (e1) (some x) (f5) (f6) (f7) (f8) (f9) (f10) (f11) (f12) (f13) (f14) (f15) (f16) (e17) (e18)
    exact ⟨_, _, _, m2, rfl, q1, q2, _, _, _, _, _, _, _, _, _, _, _, _, _, rfl⟩)
  refine ⟨f4, f5, f6, f7, f8, f9, f10, f11, f12, f13, f14, f15, f16, m', ?_⟩
  rw [show D_law_0_2 = dFor (iRg1 (dCons (dCall 2 0 c_law_pick_2 (dCons (dVar 2) (dCons (dFrz (dLst (dCons (dC (.int 1)) (dCons (dC (.int 2)) (dCons (dC (.int 4)) (fun _ m => some (.ok [], m))))))) (fun _ m => some (.ok [], m)))) dNone) (fun _ m => some (.ok [], m)))) (gVar 4) stepD from rfl, dFor_ap]
  simp [c1, r]
  exact hf
def turnD : DS := dSeq D_law_0_0 (dSeq D_law_0_1 D_law_0_2)
theorem turn_ok (ns : List Int) (hns : ns.length ≤ 63) (t : Int) (ht : 0 ≤ t) (m : Mem) (e2 e3 e4 e5 e6 e7 e8 e9 e10 e11 e12 e13 e14 e15 e16 e17 e18 : Option Vl) : ∃ f2 f3 f4 f5 f6 f7 f8 f9 f10 f11 f12 f13 f14 f15 f16 f17 f18 m', turnD [some (.frl (ns.map .int)), some (.int t), e2, e3, e4, e5, e6, e7, e8, e9, e10, e11, e12, e13, e14, e15, e16, e17, e18] m = some (.nx [some (.frl (ns.map .int)), some (.int t), f2, f3, f4, f5, f6, f7, f8, f9, f10, f11, f12, f13, f14, f15, f16, f17, f18], m') := by
  obtain ⟨c, b, h⟩ := start_ok ns hns t ht m
  have B0 : Bag ns m.length (m ++ [Cell.lst [.int c, .int b, .int 0, .lst (ns.map .int)]]) := ⟨c, b, 0, by simp⟩
  have t0 : D_law_0_0 [some (.frl (ns.map .int)), some (.int t), e2, e3, e4, e5, e6, e7, e8, e9, e10, e11, e12, e13, e14, e15, e16, e17, e18] m = some (.nx [some (.frl (ns.map .int)), some (.int t), some (.obj m.length), e3, e4, e5, e6, e7, e8, e9, e10, e11, e12, e13, e14, e15, e16, e17, e18], m ++ [Cell.lst [.int c, .int b, .int 0, .lst (ns.map .int)]]) := by
    simp [D_law_0_0, h]
  have t1 : D_law_0_1 [some (.frl (ns.map .int)), some (.int t), some (.obj m.length), e3, e4, e5, e6, e7, e8, e9, e10, e11, e12, e13, e14, e15, e16, e17, e18] (m ++ [Cell.lst [.int c, .int b, .int 0, .lst (ns.map .int)]]) = some (.nx [some (.frl (ns.map .int)), some (.int t), some (.obj m.length), some (.lst NS), e4, e5, e6, e7, e8, e9, e10, e11, e12, e13, e14, e15, e16, e17, e18], m ++ [Cell.lst [.int c, .int b, .int 0, .lst (ns.map .int)]]) := by
    have z : (4 : Nat) ≤ sizeLine := le_size (by decide)
    simp [D_law_0_1, z]
  obtain ⟨f4, f5, f6, f7, f8, f9, f10, f11, f12, f13, f14, f15, f16, m5, t2⟩ := steps_ok B0 (some (.frl (ns.map .int))) (some (.int t)) (e4) (e5) (e6) (e7) (e8) (e9) (e10) (e11) (e12) (e13) (e14) (e15) (e16) (e17) (e18)
  refine ⟨some (.obj m.length), some (.lst NS), f4, f5, f6, f7, f8, f9, f10, f11, f12, f13, f14, f15, f16, e17, e18, m5, ?_⟩
  unfold turnD
  rw [dSeq_ap, t0, thenS_nx, dSeq_ap, t1, thenS_nx, t2]
theorem cmp_fil2 {v v' : Vl} {da db : DE} {env : Ev} {m m1 m2 : Mem} {g : FD} {r : R Vl × Mem} (h1 : da env m = some (.ok (filV v), m1)) (h2 : db env m1 = some (.ok (filV v'), m2)) (hg : g [filV v, filV v'] m2 = some r) : dCmpO "Filter" csZ tsZ (fun xs ys => pickL [.a 0, .a 1] xs [] [] ys) g da db env m = some r := by
  have h3 : ∀ m, tyD m (filV v') = some (.c "Filter") := fun m => rfl
  unfold dCmpO
  have hc : (decide (("Filter" : Str) = "Filter") && (tsZ.contains (.c "Filter") && tdOk csZ (.c "Filter"))) = true := by decide +kernel
  simp only [h1, h2, bindR_ok, insD_fil, h3, hc, if_true]
  exact hg
def builtF : Fo := .an (.is "a" (.str "v")) (.no (.is "b" (.int 3)))
def boundF : Fo := .an (.is "a" (.int 8)) (.no (.is "b" (.int 3)))
theorem v_nm : Nm "v" := by
  obtain ⟨s, e, h⟩ := ns_nm (.str "v") (by simp)
  cases e
  exact h
theorem built_ok : builtF.Ok := ⟨⟨by decide +kernel, .str _ v_nm⟩, ⟨by decide +kernel, .int 3 (by decide) (by decide)⟩, rfl⟩
theorem boundF_ok : boundF.Ok := ⟨⟨by decide +kernel, .int 8 (by decide) (by decide)⟩, ⟨by decide +kernel, .int 3 (by decide) (by decide)⟩, rfl⟩
theorem eq_col (w : Str) (hw : w ∈ AB) {t : Vl} (ht : Good t) (env : Ev) (m : Mem) : dCmpO "Column" csZ tsZ (fun xs ys => pickL [.a 0, .a 1] xs [] [] ys) G_Column_eq (dCall 1 0 n_Column_init_2 (dCons (dC (.str w)) (fun _ m => some (.ok [], m))) dNone) (dC t) env m = some (.ok (filV (Fo.is w t).v), m) := cmp_col (w := w) (t := t) (by simp [column_make w hw]) rfl (ty_good ht m) (col_eq hw ht)
theorem ne_col (w : Str) (hw : w ∈ AB) {t : Vl} (ht : Good t) (env : Ev) (m : Mem) : dCmpO "Column" csZ tsZ (fun xs ys => pickL [.a 0, .a 1] xs [] [] ys) G_Column_ne (dCall 1 0 n_Column_init_2 (dCons (dC (.str w)) (fun _ m => some (.ok [], m))) dNone) (dC t) env m = some (.ok (filV (Fo.no (.is w t)).v), m) := cmp_col (w := w) (t := t) (by simp [column_make w hw]) rfl (ty_good ht m) (col_ne hw ht)
theorem f1_ok (m : Mem) (e0 e1 e2 e3 e4 e5 e6 e7 e8 e9 e10 e11 e12 e13 e14 e15 e16 e17 e18 : Option Vl) : D_law_1 [e0, e1, e2, e3, e4, e5, e6, e7, e8, e9, e10, e11, e12, e13, e14, e15, e16, e17, e18] m = some (.nx [e0, e1, e2, e3, e4, e5, e6, e7, e8, e9, e10, e11, e12, e13, e14, e15, e16, e17, some (filV builtF.v)], m) := by
  have a := eq_col "a" (by decide +kernel) (.str _ v_nm) [e0, e1, e2, e3, e4, e5, e6, e7, e8, e9, e10, e11, e12, e13, e14, e15, e16, e17, e18] m
  have b := eq_col "b" (by decide +kernel) (t := .int 3) (.int 3 (by decide) (by decide)) [e0, e1, e2, e3, e4, e5, e6, e7, e8, e9, e10, e11, e12, e13, e14, e15, e16, e17, e18] m
  have b' := inv_law (f := .is "b" (.int 3)) ⟨by decide +kernel, .int 3 (by decide) (by decide)⟩ (show 1 ≤ 8 by decide) b
  have c := bin_fil a b' (and_ok (f := .is "a" (.str "v")) (g := .no (.is "b" (.int 3))) (m := m) ⟨by decide +kernel, .str _ v_nm⟩ ⟨⟨by decide +kernel, .int 3 (by decide) (by decide)⟩, rfl⟩ (show 1 + 1 ≤ 8 by decide))
  simp only [D_law_1, dAsg_ap, c, bindS_ok]
  rfl
theorem f2_ok (m : Mem) (e0 e1 e2 e3 e4 e5 e6 e7 e8 e9 e10 e11 e12 e13 e14 e15 e16 e17 : Option Vl) : ∃ m', D_law_2 [e0, e1, e2, e3, e4, e5, e6, e7, e8, e9, e10, e11, e12, e13, e14, e15, e16, e17, some (filV builtF.v)] m = some (.rt (.bl true), m') := by
  have hks : KOk [(.inr "v", .int 8)] := fun p hp => by
    rw [List.mem_singleton.mp hp]
    exact ⟨⟨"v", rfl, v_nm⟩, 8, rfl, by decide, by decide⟩
  have dd : dDisp [((dC (.str "v")), (dC (.int 8)))] [e0, e1, e2, e3, e4, e5, e6, e7, e8, e9, e10, e11, e12, e13, e14, e15, e16, e17, some (filV builtF.v)] m = some (.ok (.obj m.length), m ++ [.dic [(.inr "v", .int 8)]]) := by
    have w : mergeZ ([] : List (Key × Vl)) [(.inr "v", .int 8)] = [(.inr "v", .int 8)] := rfl
    have kd : keyD (.str "v") = some (.inr "v") := rfl
    simp [kd, w]
  have hp : (m ++ [Cell.dic [(.inr "v", .int 8)]])[m.length]? = some (.dic [(.inr "v", .int 8)]) := by simp
  obtain ⟨_, x1, c1⟩ := bound_free built_ok (by show 1 + 1 ≤ 8; decide) hks hp (by decide +kernel)
  have w1 : builtF.put [(.inr "v", .int 8)] = boundF := by rfl
  rw [w1] at c1
  have q1 := meth1_fil (mn := "bound") (g := G_Filter_bound) (de := dVar 18) (da := dDisp [((dC (.str "v")), (dC (.int 8)))]) (env := [e0, e1, e2, e3, e4, e5, e6, e7, e8, e9, e10, e11, e12, e13, e14, e15, e16, e17, some (filV builtF.v)]) (m := m) (by decide +kernel) rfl dd c1
  have a := eq_col "a" (by decide +kernel) (t := .int 8) (.int 8 (by decide) (by decide)) [e0, e1, e2, e3, e4, e5, e6, e7, e8, e9, e10, e11, e12, e13, e14, e15, e16, e17, some (filV builtF.v)] (m ++ [Cell.dic [(.inr "v", .int 8)]] ++ x1)
  have b := ne_col "b" (by decide +kernel) (t := .int 3) (.int 3 (by decide) (by decide)) [e0, e1, e2, e3, e4, e5, e6, e7, e8, e9, e10, e11, e12, e13, e14, e15, e16, e17, some (filV builtF.v)] (m ++ [Cell.dic [(.inr "v", .int 8)]] ++ x1)
  have c := bin_fil a b (and_ok (f := .is "a" (.int 8)) (g := .no (.is "b" (.int 3))) (m := m ++ [Cell.dic [(.inr "v", .int 8)]] ++ x1) ⟨by decide +kernel, .int 8 (by decide) (by decide)⟩ ⟨⟨by decide +kernel, .int 3 (by decide) (by decide)⟩, rfl⟩ (show 1 + 1 ≤ 8 by decide))
  have he := eq_fo boundF_ok boundF_ok (by show 1 + 1 ≤ 20; decide) (by show 1 + 1 ≤ 20; decide) (m ++ [Cell.dic [(.inr "v", .int 8)]] ++ x1)
  rw [(eqv_fo boundF_ok boundF_ok).mpr rfl] at he
  have k := cmp_fil2 q1 c (fil_eq he)
  obtain ⟨x2, c2⟩ := prm_i built_ok (by show 1 + 1 ≤ 10; decide) (m ++ [Cell.dic [(.inr "v", .int 8)]] ++ x1)
  have w2 : onceL [] builtF.nms = [.str "v"] := rfl
  rw [w2] at c2
  have q2 := meth0_fil (mn := "parameters") (g := G_Filter_parameters) (v := builtF.v) (de := dVar 18) (env := [e0, e1, e2, e3, e4, e5, e6, e7, e8, e9, e10, e11, e12, e13, e14, e15, e16, e17, some (filV builtF.v)]) (m := m ++ [Cell.dic [(.inr "v", .int 8)]] ++ x1) (by decide +kernel) rfl c2
  have w3 : ∀ m, eqF (.lst [.str "v"]) (.lst [.str "v"]) m = some (.bl true, m) := fun m => by
    have s := sm_list (ds := [.str "v"]) (k := 0) (n := 200) fun d hd => by
      rw [List.mem_singleton.mp hd]
      exact (sm_good (.str "v" v_nm)).2
    have z := (eq_sm (x := .lst [.str "v"]) (y := .lst [.str "v"]) (m := m) (.inl rfl) (d := .list [.str "v"]) (e := .list [.str "v"]) rfl rfl s s (by decide) (by decide)).1
    rw [show PyData.eqv (.list [.str "v"]) (.list [.str "v"]) = true by decide +kernel] at z
    exact z
  have z1 : (1 : Nat) ≤ sizeLine := le_size (by decide)
  refine ⟨m ++ [Cell.dic [(.inr "v", .int 8)]] ++ x1 ++ x2, ?_⟩
  simp only [D_law_2, dRet_ap, dAndV_ap, k, bindR_ok, truD_bl, if_true, d2_ap, q2, dFrz_ap, dLst_ap, dCons_ap, dC_ap, List.length_cons, List.length_nil, Nat.zero_add, z1, w3, okR_s, bindS_ok]
theorem law_true (ns : List Int) (hns : ns.length ≤ 63) (_ : ∀ z ∈ ns, Builtin.Int.intBits z ≤ 1048576) : ∃ m', B_law [.frl (ns.map Vl.int)] [] = some (.ok (.bl true), m') := by
  show ∃ m', bodyD 19 D_law [.frl (ns.map Vl.int)] [] = some (.ok (.bl true), m')
  refine wp_fin ?_
  refine wp_body ?_
  rw [show startZ 19 [.frl (ns.map Vl.int)] = [some (.frl (ns.map .int)), none, none, none, none, none, none, none, none, none, none, none, none, none, none, none, none, none, none] from rfl]
  rw [show D_law = dSeq (dFor (iRg1 (dCons (dB (two maxZ) (dCons (dC (.int 1)) (dCons (dB (two minZ) (dCons (dC (.int 5)) (dCons (dB lenF (dCons (dVar 0) (fun _ m => some (.ok [], m)))) (fun _ m => some (.ok [], m))))) (fun _ m => some (.ok [], m))))) (fun _ m => some (.ok [], m)))) (gVar 1) turnD) (dSeq D_law_1 D_law_2) from rfl]
  rw [dSeq_ap, dFor_ap]
  have hk : (-(2 ^ 62) ≤ maxZ 1 (minZ 5 ns.length)) ∧ maxZ 1 (minZ 5 ns.length) < 2 ^ 62 := by
    unfold maxZ minZ
    omega
  have hr : rng1 [.int (maxZ 1 (minZ 5 ns.length))] = some (intsZ 0 (maxZ 1 (minZ 5 ns.length)).toNat) := by
    unfold rng1
    simp only [hk.1, hk.2, decide_true, Bool.and_self, if_true]
  simp only [iRg1_ap, dCons_ap, dB_ap, dC_ap, dVar_z, bindR_ok, okR_s, lenF_frl, two_int, List.length_map, hr, bindS_ok]
  refine wp_for (P := fun env m => ∃ e1 e2 e3 e4 e5 e6 e7 e8 e9 e10 e11 e12 e13 e14 e15 e16 e17 e18, env = [some (.frl (ns.map .int)), e1, e2, e3, e4, e5, e6, e7, e8, e9, e10, e11, e12, e13, e14, e15, e16, e17, e18]) ⟨_, _, _, _, _, _, _, _, _, _, _, _, _, _, _, _, _, _, rfl⟩ ?_ ?_
  · rintro x hx env m ⟨e1, e2, e3, e4, e5, e6, e7, e8, e9, e10, e11, e12, e13, e14, e15, e16, e17, e18, rfl⟩
    obtain ⟨t, ht, rfl⟩ := pos_int hx
    obtain ⟨f2, f3, f4, f5, f6, f7, f8, f9, f10, f11, f12, f13, f14, f15, f16, f17, f18, m', h⟩ := turn_ok ns hns t ht m e2 e3 e4 e5 e6 e7 e8 e9 e10 e11 e12 e13 e14 e15 e16 e17 e18
    refine ⟨_, _, rfl, ?_⟩
    show wpO (turnD [some (.frl (ns.map .int)), some (.int t), e2, e3, e4, e5, e6, e7, e8, e9, e10, e11, e12, e13, e14, e15, e16, e17, e18] m) _
    rw [h, wpO_some]
    exact ⟨_, rfl, _, _, _, _, _, _, _, _, _, _, _, _, _, _, _, _, _, _, rfl⟩
  · rintro env m ⟨e1, e2, e3, e4, e5, e6, e7, e8, e9, e10, e11, e12, e13, e14, e15, e16, e17, e18, rfl⟩
    obtain ⟨m', h⟩ := f2_ok m (some (.frl (ns.map .int))) (e1) (e2) (e3) (e4) (e5) (e6) (e7) (e8) (e9) (e10) (e11) (e12) (e13) (e14) (e15) (e16) (e17)
    rw [dSeq_ap, f1_ok m (some (.frl (ns.map .int))) (e1) (e2) (e3) (e4) (e5) (e6) (e7) (e8) (e9) (e10) (e11) (e12) (e13) (e14) (e15) (e16) (e17) (e18), thenS_nx, h, wpO_some]
abbrev looseL : List Str := "BadRow" :: "BadColumn" :: "BadValue" :: "BadFilter" :: "Unbound" :: "TooMany" :: "LETTERS" :: "TOP" :: "is_value" :: "is_name" :: "is_column" :: "is_row" :: "PARTS" :: "parts_of" :: "compared_in" :: "replaced_in" :: "takes_cells" :: "Filter" :: "Column" :: "_law_start" :: "_law_draw" :: "_law_pick" :: "_law_turned" :: "_law_cell" :: "_law_leaf" :: "_law_inverted" :: "_law_chosen" :: "_law_takes" :: "_law_pairs" :: "_law_once" :: "_law_put_in" :: "_law_bound" :: []
theorem progF : ProgF (PySem.Challenge.rw_lateflushes_k09_filters_bound).prog fileZ := ⟨by decide +kernel, by decide +kernel⟩
/-! ### the head -/
abbrev Rw : PySem.W.OpenRow := PySem.W.OpenLaw.row PySem.Challenge.rw_lateflushes_k09_filters_bound
abbrev hk : PySem.W.Hook := hookZ 5 cks dzs ezs
def ob (s : PySem.W.SharedT) : AlZ := obsZG 5 cks dzs ezs (HandSHeadRun.getT s)
theorem ob_eq (s : PySem.W.SharedT) : ob s = hk.obs s.abs := obsZG_eq (HandSHeadRun.getT_eq s)
theorem run (w : World) : HandSHeadRun.RunEq Rw (PySem.W.view Rw.prog [36]) hk ob 6000 K09.looseL w := by
  intro os
  kernel_rfl
end K09
open PySem PySem.W PySem.Calls PyProof.Rows
theorem PySem.Challenge.cw_lateflushes_k09_filters_bound_holds : PySem.Challenge.rw_lateflushes_k09_filters_bound.Holds := by
  w_on; o_law
  refine HandSHeadRun.head_any (r := OpenLaw.row PySem.Challenge.rw_lateflushes_k09_filters_bound) (q := view (OpenLaw.row PySem.Challenge.rw_lateflushes_k09_filters_bound).prog [36]) (H := K09.hk) (ob := K09.ob) (M := 6000) (loose := K09.looseL) (d := HandSHeadRun.topDef (OpenLaw.row PySem.Challenge.rw_lateflushes_k09_filters_bound).prog 36) (kwd := []) K09.ob_eq
    (by kernel_rfl) (fun s => by kernel_rfl) K09.run (by kernel_rfl) (by kernel_rfl) (by kernel_rfl) (by rfl) (by first | assumption | decide +kernel) (by decide +kernel) ⟨rfl, rfl, rfl, rfl, rfl, by decide +kernel⟩ ?hw ?hc
  case hw => w_witness2
  case hc =>
    refine Z.walk_end (l := PySem.Challenge.rw_lateflushes_k09_filters_bound) (n := 63) (k := 45) (x := "_law_script") (g := K09.B_law) rfl (by decide) (by kernel_rfl) ⟨⟨rfl, by decide, by decide⟩, rfl⟩ ?F K09.law_true
    intro w mg fa h Y G hmg0
    obtain ⟨K, KX, c⟩ := Y
    have hmg : mg ("law" : PySem.Str) = some (.ref fa) := by
      have e : (HandSHeadRun.topDef (OpenLaw.row PySem.Challenge.rw_lateflushes_k09_filters_bound).prog 36).name = ("law" : PySem.Str) := by kernel_rfl
      rw [← e]
      exact hmg0
    have Xf := K09.fx_of (P := (PySem.Challenge.rw_lateflushes_k09_filters_bound).prog) K09.progF KX G c
    have Df := K09.dx_of c
    obtain ⟨fd, F⟩ := Df.d_law
    have e := hmg.symm.trans Xf.g_law
    cases e
    have b := L2.FunD.bindsA (ps := ["_law_script"]) F fun _ _ _ _ _ _ us hl => match us, hl with | [_], _ => rfl
    exact ⟨K, fd, KX, fun s v => b s [v] rfl, fun base hK hG => K09.ok_law (K09.fx_of (P := (PySem.Challenge.rw_lateflushes_k09_filters_bound).prog) K09.progF hK hG c) Df F⟩
