import PyProof.Rows.All
import Wide.All
import OpenK.AllK
import Wide.FinOn
import HandS.Base
import HandS.Call
import HandS.List
import HandS.Exc
import HandS.Dict
import HandS.Comp
import HandS.HeadHook1
import HandS.Deep
import HandS.Style
import HandS.IsInst
import HandS.Flow
import HandS.CallSlots
import HandS.Defaults
import HandS.Text
import HandS.Property
import HandS.ClsMeth
import HandS.Iter
import HandS.OwnEq
import PyProof.ReprRoads
import HandS.EndBits
import HandS.Head2
import HandS.HeadHook2
import HandS.MakeKw
import HandS.MakeKwOnly
import HandS.TryMany
import HandS.ExcField
import HandS.ExcIs
import KE.KExcSuper
import HandS.ExcSuper
import KE.KExcIs
import HandS.More
import HandS.CallLocal
import KE.KOpsOwn
import PyProof.StrBlock2
import OpenK.KMeth
import HandS.TupAny
import KE.GoesEnum
import HandS.Star
import PyProof.RowDictHeap
import PyProof.RowDictFlat
import KE.RegKStar
import PyProof.Rows.CallKw2
import HandS.TupSets
import OpenK.KOps
import KE.KStateDown
import Lean
import HandS.Head0
import HandS.Head1
import HandS.Words
import PySem.Challenge.RW_lateflushes_k01_rows_made
set_option Elab.async false
set_option linter.all false
set_option maxRecDepth 100000
set_option maxHeartbeats 4000000
set_option autoImplicit false
namespace Z
open PySem PySem.Spec PyProof.Rows L2
/-! values as trees; what is changed stands in a memory of cells -/
inductive Vl where
  | non | bl (b : Bool) | int (i : Int) | str (x : Str) | ty (n : String)
  | glo (x : Str)
  | tup (xs : List Vl) | lst (xs : List Vl) | frl (xs : List Vl)
  | dic (kvs : List (Key × Vl)) | dit (kvs : List (List Key × Vl))
  | ins (c : Str) (fs : List (Str × Vl))
  | obj (n : Nat)
  | err (c : Str) (fs : List (Str × Vl))
inductive Cell where
  | lst (xs : List Vl) | dic (kvs : List (Key × Vl)) | dit (kvs : List (List Key × Vl))
  | ins (c : Str) (fs : List (Str × Vl))
abbrev Mem := List Cell
abbrev Ev := List (Option Vl)
inductive R (α : Type) where
  | ok (a : α) | ex (c : Str) (fs : List (Str × Vl))
/-- where the cells lie; which objects are values that nobody changes -/
structure Lay where
  c : List Addr
  z : List Addr
abbrev DE := Ev → Mem → Option (R Vl × Mem)
/-- an exception as a value: its class at C, its dict -/
def exq (a C : Addr) (d : Option Addr) : HO := .ext fun h => ∃ (oe : Obj) (vs : Array Value), h.get? a = some oe ∧ oe.cls = .ref C ∧ oe.dict = d ∧ oe.data = .fields vs
def ErrD (ρ : Lay) (H : Hp) (d : Option Addr) (gs : List (Str × V)) : Prop := (∃ dd, d = some dd ∧ dd ∉ ρ.c ∧ H dd = some (.xd gs)) ∨ (d = none ∧ gs = [])
section
variable (K : PySem.W.Frag) (ρ : Lay) (H : Hp)
def TupAt (a : Addr) (vs : List V) : Prop := (a ∉ ρ.c ∧ Rd H a (.tup vs)) ∨
    ∃ (o : Obj) (its : Array Value) (n : Nat), K.lookup a = some o ∧ o.cls = .type "tuple" ∧ o.data = .seq its n ∧ its.size ≤ sizeLine ∧ Vals vs its.toList
def LstAt (a : Addr) (vs : List V) : Prop := (a ∉ ρ.c ∧ ∃ o, H a = some (.frz o (.lst vs))) ∨
    ∃ (o : Obj) (its : Array Value) (n : Nat), K.lookup a = some o ∧ o.cls = .type "list" ∧ o.dict = none ∧ o.data = .seq its n ∧ its.size ≤ sizeLine ∧ Vals vs its.toList
mutual
def RV : Vl → V → Prop
  | .non, v => v = .non
  | .bl b, v => v = .bl b
  | .int i, v => v = .int i
  | .str x, v => v = .str x
  | .ty n, v => v = .ty n
  | .glo x, v => v = .ref (He.ga K x)
  | .tup xs, v => ∃ a vs, v = .ref a ∧ TupAt K ρ H a vs ∧ RVs xs vs
  | .lst xs, v => ∃ a vs, v = .ref a ∧ (a ∈ ρ.z ∧ a ∉ ρ.c) ∧ H a = some (.lst vs) ∧ RVs xs vs
  | .frl xs, v => ∃ a vs, v = .ref a ∧ LstAt K ρ H a vs ∧ RVs xs vs
  | .dic kvs, v => ∃ a ks, v = .ref a ∧ (a ∈ ρ.z ∧ a ∉ ρ.c) ∧ H a = some (.dK ks) ∧ RKs kvs ks
  | .dit kvs, v => ∃ a ks, v = .ref a ∧ (a ∈ ρ.z ∧ a ∉ ρ.c) ∧ H a = some (.dT ks) ∧ RTs kvs ks
  | .ins c fs, v => ∃ a dx gs, v = .ref a ∧ (a ∈ ρ.z ∧ a ∉ ρ.c) ∧ H a = some (.ins (He.ga K c) dx gs) ∧ RFs fs gs
  | .obj n, v => ∃ a, v = .ref a ∧ ρ.c[n]? = some a
  | .err c fs, v => ∃ a d gs, v = .ref a ∧ a ∉ ρ.c ∧ H a = some (exq a (He.ga K c) d) ∧ ErrD ρ H d gs ∧ RFs fs gs
def RVs : List Vl → List V → Prop
  | [], vs => vs = []
  | x :: xs, vs => ∃ v r, vs = v :: r ∧ RV x v ∧ RVs xs r
def RKs : List (Key × Vl) → List (Key × V) → Prop
  | [], vs => vs = []
  | (k, x) :: xs, vs => ∃ v r, vs = (k, v) :: r ∧ RV x v ∧ RKs xs r
def RTs : List (List Key × Vl) → List (List Key × V) → Prop
  | [], vs => vs = []
  | (k, x) :: xs, vs => ∃ v r, vs = (k, v) :: r ∧ RV x v ∧ RTs xs r
def RFs : List (Str × Vl) → List (Str × V) → Prop
  | [], vs => vs = []
  | (k, x) :: xs, vs => ∃ v r, vs = (k, v) :: r ∧ RV x v ∧ RFs xs r
end
end
structure Ext (ρ : Lay) (H : Hp) (ρ' : Lay) (H' : Hp) : Prop where
  pre : ρ.c <+: ρ'.c
  zin : ∀ a, a ∈ ρ.z → a ∈ ρ'.z
  keep : ∀ a o, H a = some o → a ∉ ρ.c → H' a = some o
  stay : ∀ a o, H a = some o → ∃ o', H' a = some o'
  oldc : ∀ a, a ∈ ρ'.c → a ∈ ρ.c ∨ H a = none
  oldz : ∀ a, a ∈ ρ'.z → a ∈ ρ.z ∨ H a = none
end Z
namespace Z
open PySem PySem.Spec PyProof.Rows L2
section
variable {K : PySem.W.Frag} {ρ ρ' ρ2 : Lay} {H H' H2 : Hp}
theorem Ext.refl : Ext ρ H ρ H := ⟨List.prefix_refl _, fun _ h => h, fun a o e n => e, fun a o e => ⟨o, e⟩, fun a h => .inl h, fun a h => .inl h⟩
theorem Ext.none (e : Ext ρ H ρ' H') {a : Addr} (h : H' a = none) : H a = none := by
  cases z : H a with
  | none => rfl
  | some o =>
    obtain ⟨o', q⟩ := e.stay a o z
    rw [h] at q
    cases q
theorem Ext.out (e : Ext ρ H ρ' H') {a : Addr} {o : HO} (h : H a = some o) (n : a ∉ ρ.c) : a ∉ ρ'.c := fun q => by
  rcases e.oldc a q with z | z
  · exact n z
  · rw [h] at z
    cases z
theorem Ext.outz (e : Ext ρ H ρ' H') {a : Addr} {o : HO} (h : H a = some o) (n : a ∉ ρ.z) : a ∉ ρ'.z := fun q => by
  rcases e.oldz a q with z | z
  · exact n z
  · rw [h] at z
    cases z
theorem Ext.trans (a : Ext ρ H ρ' H') (b : Ext ρ' H' ρ2 H2) : Ext ρ H ρ2 H2 :=
  ⟨a.pre.trans b.pre, fun x h => b.zin x (a.zin x h), fun x o e n => b.keep x o (a.keep x o e n) (a.out e n), fun x o e => let ⟨o', h⟩ := a.stay x o e; b.stay x o' h, fun x h => by
    rcases b.oldc x h with q | q
    · exact a.oldc x q
    · exact .inr (a.none q), fun x h => by
    rcases b.oldz x h with q | q
    · exact a.oldz x q
    · exact .inr (a.none q)⟩
theorem rd_mono (e : Ext ρ H ρ' H') {a : Addr} {u : HO} (n : a ∉ ρ.c) (h : Rd H a u) : a ∉ ρ'.c ∧ Rd H' a u := by
  rcases h with h | ⟨o, h⟩
  · exact ⟨e.out h n, .inl (e.keep a _ h n)⟩
  · exact ⟨e.out h n, .inr ⟨o, e.keep a _ h n⟩⟩
theorem TupAt.mono (e : Ext ρ H ρ' H') {a : Addr} {vs : List V} (h : TupAt K ρ H a vs) : TupAt K ρ' H' a vs := by
  rcases h with ⟨n, h⟩ | h
  · exact .inl (rd_mono e n h)
  · exact .inr h
theorem LstAt.mono (e : Ext ρ H ρ' H') {a : Addr} {vs : List V} (h : LstAt K ρ H a vs) : LstAt K ρ' H' a vs := by
  rcases h with ⟨n, o, h⟩ | h
  · exact .inl ⟨e.out h n, o, e.keep a _ h n⟩
  · exact .inr h
theorem TupAt.sq {a : Addr} {vs : List V} (h : TupAt K ρ H a vs) : SqT K H a vs := by
  rcases h with ⟨_, h⟩ | h
  · exact .inl h
  · exact .inr h
theorem LstAt.sq {a : Addr} {vs : List V} (h : LstAt K ρ H a vs) : SqL K H a vs := by
  rcases h with ⟨_, h⟩ | h
  · exact .inl (.inr h)
  · exact .inr h
theorem ErrD.mono (e : Ext ρ H ρ' H') {d : Option Addr} {gs : List (Str × V)} (h : ErrD ρ H d gs) : ErrD ρ' H' d gs := by
  rcases h with ⟨dd, h1, h2, h3⟩ | h
  · exact .inl ⟨dd, h1, e.out h3 h2, e.keep dd _ h3 h2⟩
  · exact .inr h
mutual
theorem RV.mono (e : Ext ρ H ρ' H') : ∀ (x : Vl) {v : V}, RV K ρ H x v → RV K ρ' H' x v
  | .non, _, h => h
  | .bl _, _, h => h
  | .int _, _, h => h
  | .str _, _, h => h
  | .ty _, _, h => h
  | .glo _, _, h => h
  | .tup xs, _, ⟨a, vs, h1, h2, h3⟩ => ⟨a, vs, h1, h2.mono e, RVs.mono e xs h3⟩
  | .lst xs, _, ⟨a, vs, h1, n, h2, h3⟩ => ⟨a, vs, h1, ⟨e.zin a n.1, e.out h2 n.2⟩, e.keep a _ h2 n.2, RVs.mono e xs h3⟩
  | .frl xs, _, ⟨a, vs, h1, h2, h3⟩ => ⟨a, vs, h1, h2.mono e, RVs.mono e xs h3⟩
  | .dic xs, _, ⟨a, vs, h1, n, h2, h3⟩ => ⟨a, vs, h1, ⟨e.zin a n.1, e.out h2 n.2⟩, e.keep a _ h2 n.2, RKs.mono e xs h3⟩
  | .dit xs, _, ⟨a, vs, h1, n, h2, h3⟩ => ⟨a, vs, h1, ⟨e.zin a n.1, e.out h2 n.2⟩, e.keep a _ h2 n.2, RTs.mono e xs h3⟩
  | .ins c fs, _, ⟨a, dx, gs, h1, n, h2, h3⟩ => ⟨a, dx, gs, h1, ⟨e.zin a n.1, e.out h2 n.2⟩, e.keep a _ h2 n.2, RFs.mono e fs h3⟩
  | .obj n, _, ⟨a, h1, h2⟩ => ⟨a, h1, by
      obtain ⟨t, ht⟩ := e.pre
      rw [← ht]
      exact (List.getElem?_append_left (List.getElem?_eq_some_iff.mp h2).1).trans h2⟩
  | .err c fs, _, ⟨a, d, gs, h1, n, h2, h3, h4⟩ => ⟨a, d, gs, h1, e.out h2 n, e.keep a _ h2 n, h3.mono e, RFs.mono e fs h4⟩
theorem RVs.mono (e : Ext ρ H ρ' H') : ∀ (xs : List Vl) {vs : List V}, RVs K ρ H xs vs → RVs K ρ' H' xs vs
  | [], _, h => h
  | x :: xs, _, ⟨v, r, h1, h2, h3⟩ => ⟨v, r, h1, RV.mono e x h2, RVs.mono e xs h3⟩
theorem RKs.mono (e : Ext ρ H ρ' H') : ∀ (xs : List (Key × Vl)) {vs : List (Key × V)}, RKs K ρ H xs vs → RKs K ρ' H' xs vs
  | [], _, h => h
  | (k, x) :: xs, _, ⟨v, r, h1, h2, h3⟩ => ⟨v, r, h1, RV.mono e x h2, RKs.mono e xs h3⟩
theorem RTs.mono (e : Ext ρ H ρ' H') : ∀ (xs : List (List Key × Vl)) {vs : List (List Key × V)}, RTs K ρ H xs vs → RTs K ρ' H' xs vs
  | [], _, h => h
  | (k, x) :: xs, _, ⟨v, r, h1, h2, h3⟩ => ⟨v, r, h1, RV.mono e x h2, RTs.mono e xs h3⟩
theorem RFs.mono (e : Ext ρ H ρ' H') : ∀ (xs : List (Str × Vl)) {vs : List (Str × V)}, RFs K ρ H xs vs → RFs K ρ' H' xs vs
  | [], _, h => h
  | (k, x) :: xs, _, ⟨v, r, h1, h2, h3⟩ => ⟨v, r, h1, RV.mono e x h2, RFs.mono e xs h3⟩
end
/-! lists of values -/
theorem RVs.length : ∀ {xs : List Vl} {vs : List V}, RVs K ρ H xs vs → xs.length = vs.length
  | [], _, h => by rw [show _ = [] from h]; rfl
  | _ :: xs, _, ⟨v, r, h1, _, h3⟩ => by rw [h1, List.length_cons, List.length_cons, RVs.length h3]
theorem RVs.get : ∀ {xs : List Vl} {vs : List V} {i : Nat} {x : Vl}, RVs K ρ H xs vs → xs[i]? = some x → ∃ v, vs[i]? = some v ∧ RV K ρ H x v
  | [], _, _, _, _, e => by simp at e
  | _ :: _, _, 0, _, ⟨v, r, h1, h2, _⟩, e => by
    simp at e
    subst e h1
    exact ⟨v, rfl, h2⟩
  | _ :: xs, _, i + 1, x, ⟨v, r, h1, _, h3⟩, e => by
    subst h1
    obtain ⟨u, h4, h5⟩ := RVs.get (i := i) (x := x) h3 (by simpa using e)
    exact ⟨u, by simpa using h4, h5⟩
theorem RVs.getv : ∀ {xs : List Vl} {vs : List V} {i : Nat} {v : V}, RVs K ρ H xs vs → vs[i]? = some v → ∃ x, xs[i]? = some x ∧ RV K ρ H x v := by
  intro xs vs i v h e
  have hl := h.length
  obtain ⟨hi, _⟩ := List.getElem?_eq_some_iff.mp e
  have hx : xs[i]? = some (xs[i]'(by omega)) := by simp [hl, hi]
  obtain ⟨u, h4, h5⟩ := h.get hx
  rw [e] at h4
  cases h4
  exact ⟨_, hx, h5⟩
theorem RVs.append : ∀ {xs ys : List Vl} {vs ws : List V}, RVs K ρ H xs vs → RVs K ρ H ys ws → RVs K ρ H (xs ++ ys) (vs ++ ws)
  | [], _, _, _, h, q => by
    rw [show _ = [] from h]
    exact q
  | _ :: xs, _, _, _, ⟨v, r, h1, h2, h3⟩, q => by
    subst h1
    exact ⟨v, _, rfl, h2, RVs.append h3 q⟩
theorem RVs.set : ∀ {xs : List Vl} {vs : List V} {y : Vl} {w : V} (i : Nat), RVs K ρ H xs vs → RV K ρ H y w → RVs K ρ H (xs.set i y) (vs.set i w)
  | [], _, _, _, _, h, _ => by
    rw [show _ = [] from h]
    exact rfl
  | _ :: xs, _, _, _, 0, ⟨v, r, h1, h2, h3⟩, q => by
    subst h1
    exact ⟨_, _, rfl, q, h3⟩
  | _ :: xs, _, _, _, i + 1, ⟨v, r, h1, h2, h3⟩, q => by
    subst h1
    exact ⟨_, _, rfl, h2, RVs.set i h3 q⟩
theorem RVs.mk : ∀ {xs : List Vl} {vs : List V}, xs.length = vs.length → (∀ (i : Nat) (x : Vl) (v : V), xs[i]? = some x → vs[i]? = some v → RV K ρ H x v) → RVs K ρ H xs vs
  | [], [], _, _ => rfl
  | [], _ :: _, h, _ => by simp at h
  | _ :: _, [], h, _ => by simp at h
  | x :: xs, v :: vs, h, q => ⟨v, vs, rfl, q 0 x v rfl rfl, RVs.mk (by simpa using h) fun i y w h1 h2 => q (i + 1) y w (by simpa using h1) (by simpa using h2)⟩
theorem RVs.eraseIdx {xs : List Vl} {vs : List V} (h : RVs K ρ H xs vs) (i : Nat) : RVs K ρ H (xs.eraseIdx i) (vs.eraseIdx i) := by
  refine RVs.mk (by rw [List.length_eraseIdx, List.length_eraseIdx, h.length]) fun j x v h1 h2 => ?_
  rw [List.getElem?_eraseIdx] at h1 h2
  split at h1
  · rename_i q
    rw [if_pos q] at h2
    obtain ⟨w, h3, h4⟩ := h.get h1
    rw [h2] at h3
    cases h3
    exact h4
  · rename_i q
    rw [if_neg q] at h2
    obtain ⟨w, h3, h4⟩ := h.get h1
    rw [h2] at h3
    cases h3
    exact h4
theorem RVs.reverse {xs : List Vl} {vs : List V} (h : RVs K ρ H xs vs) : RVs K ρ H xs.reverse vs.reverse := by
  refine RVs.mk (by rw [List.length_reverse, List.length_reverse, h.length]) fun j x v h1 h2 => ?_
  have hj : j < xs.length := by simpa using (List.getElem?_eq_some_iff.mp h1).1
  rw [List.getElem?_reverse hj] at h1
  rw [List.getElem?_reverse (by rw [← h.length]; exact hj), ← h.length] at h2
  obtain ⟨w, h3, h4⟩ := h.get h1
  rw [h2] at h3
  cases h3
  exact h4
theorem RFs.get : ∀ {xs : List (Str × Vl)} {vs : List (Str × V)} {f : Str} {x : Vl}, RFs K ρ H xs vs → xs.lookup f = some x → ∃ v, vs.lookup f = some v ∧ RV K ρ H x v
  | [], _, _, _, _, e => by simp at e
  | (k, y) :: xs, _, f, x, ⟨v, r, h1, h2, h3⟩, e => by
    subst h1
    rw [List.lookup_cons] at e ⊢
    cases q : f == k with
    | true =>
      rw [q] at e
      cases e
      exact ⟨v, rfl, h2⟩
    | false =>
      rw [q] at e
      exact RFs.get h3 e
theorem RFs.none : ∀ {xs : List (Str × Vl)} {vs : List (Str × V)} {f : Str}, RFs K ρ H xs vs → xs.lookup f = none → vs.lookup f = none
  | [], _, _, h, _ => by
    rw [show _ = [] from h]
    rfl
  | (k, y) :: xs, _, f, ⟨v, r, h1, h2, h3⟩, e => by
    subst h1
    rw [List.lookup_cons] at e ⊢
    cases q : f == k with
    | true =>
      rw [q] at e
      cases e
    | false =>
      rw [q] at e
      exact RFs.none h3 e
theorem RFs.length : ∀ {xs : List (Str × Vl)} {vs : List (Str × V)}, RFs K ρ H xs vs → xs.length = vs.length
  | [], _, h => by rw [show _ = [] from h]; rfl
  | (_, _) :: xs, _, ⟨v, r, h1, _, h3⟩ => by rw [h1, List.length_cons, List.length_cons, RFs.length h3]
/-! a value is of the flat kinds -/
def putL (f : Str) (v : Vl) : List (Str × Vl) → List (Str × Vl)
  | [] => [(f, v)]
  | (g, x) :: r => if g = f then (g, v) :: r else (g, x) :: putL f v r
theorem RFs.put {f : Str} {y : Vl} {w : V} (q : RV K ρ H y w) : ∀ {xs : List (Str × Vl)} {vs : List (Str × V)}, RFs K ρ H xs vs → RFs K ρ H (putL f y xs) (putF f w vs)
  | [], _, h => by
    rw [show _ = [] from h]
    exact ⟨w, [], rfl, q, rfl⟩
  | (k, x) :: xs, _, ⟨v, r, h1, h2, h3⟩ => by
    subst h1
    unfold putL putF
    by_cases e : k = f
    · rw [if_pos e, if_pos e]
      exact ⟨w, r, rfl, q, h3⟩
    · rw [if_neg e, if_neg e]
      exact ⟨v, _, rfl, h2, RFs.put q h3⟩
end
/-! ### the memory -/
def RC (K : PySem.W.Frag) (ρ : Lay) (H : Hp) (a : Addr) : Cell → Prop
  | .lst xs => ∃ vs, H a = some (.lst vs) ∧ RVs K ρ H xs vs
  | .dic ks => ∃ vs, H a = some (.dK vs) ∧ RKs K ρ H ks vs
  | .dit ks => ∃ vs, H a = some (.dT vs) ∧ RTs K ρ H ks vs
  | .ins c fs => ∃ dx gs, H a = some (.ins (He.ga K c) dx gs) ∧ RFs K ρ H fs gs
structure RM (K : PySem.W.Frag) (ρ : Lay) (m : Mem) (H : Hp) : Prop where
  nd : ρ.c.Nodup
  len : ρ.c.length = m.length
  at_ : ∀ (n : Nat) (c : Cell) (a : Addr), m[n]? = some c → ρ.c[n]? = some a → RC K ρ H a c
  zt : ∀ a, a ∈ ρ.z → a ∉ ρ.c ∧ ∃ o, H a = some o
section
variable {K : PySem.W.Frag} {ρ ρ' : Lay} {H H' : Hp} {m : Mem} {n : Nat} {a p : Addr} {c : Cell}
theorem RC.some (h : RC K ρ H a c) : ∃ o, H a = some o := by
  cases c with
  | lst xs => exact let ⟨vs, h, _⟩ := h; ⟨_, h⟩
  | dic xs => exact let ⟨vs, h, _⟩ := h; ⟨_, h⟩
  | dit xs => exact let ⟨vs, h, _⟩ := h; ⟨_, h⟩
  | ins k fs => exact let ⟨_, vs, h, _⟩ := h; ⟨_, h⟩
theorem RM.some (h : RM K ρ m H) (ha : a ∈ ρ.c) : ∃ o, H a = some o := by
  obtain ⟨n, hn⟩ := List.mem_iff_getElem?.mp ha
  have hl : n < m.length := by rw [← h.len]; exact (List.getElem?_eq_some_iff.mp hn).1
  exact (h.at_ n m[n] a (by simp [hl]) hn).some
theorem RM.fresh (h : RM K ρ m H) (hp : H p = none) : p ∉ ρ.c := fun q => by
  obtain ⟨o, e⟩ := h.some q
  rw [hp] at e
  cases e
theorem RM.freshz (h : RM K ρ m H) (hp : H p = none) : p ∉ ρ.z := fun q => by
  obtain ⟨_, o, e⟩ := h.zt p q
  rw [hp] at e
  cases e
theorem RM.adr (h : RM K ρ m H) (hn : m[n]? = Option.some c) : ∃ a, ρ.c[n]? = Option.some a := by
  have hl : n < ρ.c.length := by rw [h.len]; exact (List.getElem?_eq_some_iff.mp hn).1
  exact ⟨ρ.c[n], by simp [hl]⟩
theorem RM.ne (h : RM K ρ m H) {i j : Nat} {b : Addr} (h1 : ρ.c[i]? = Option.some a) (h2 : ρ.c[j]? = Option.some b) (ne : i ≠ j) : a ≠ b := fun e => by
  subst e
  obtain ⟨q1, e1⟩ := List.getElem?_eq_some_iff.mp h1
  obtain ⟨q2, e2⟩ := List.getElem?_eq_some_iff.mp h2
  exact ne ((List.getElem_inj h.nd).mp (e1.trans e2.symm))
/-- a cell behind a change that keeps what lies at its address -/
theorem RC.mono (e : Ext ρ H ρ' H') (hs : ∀ o, H a = Option.some o → H' a = Option.some o) : ∀ {c : Cell}, RC K ρ H a c → RC K ρ' H' a c
  | .lst xs, ⟨vs, h1, h2⟩ => ⟨vs, hs _ h1, h2.mono e⟩
  | .dic xs, ⟨vs, h1, h2⟩ => ⟨vs, hs _ h1, h2.mono e⟩
  | .dit xs, ⟨vs, h1, h2⟩ => ⟨vs, hs _ h1, h2.mono e⟩
  | .ins _ xs, ⟨dx, vs, h1, h2⟩ => ⟨dx, vs, hs _ h1, h2.mono e⟩
theorem upd_stay {o : HO} {b : Addr} {u : HO} (e : H b = Option.some u) : ∃ o', upd H p o b = Option.some o' := by
  by_cases q : b = p
  · subst q
    exact ⟨o, upd_same⟩
  · exact ⟨u, by rw [upd_ne q]; exact e⟩
theorem ext_new {o : HO} (hp : H p = none) : Ext ρ H ρ (upd H p o) :=
  ⟨List.prefix_refl _, fun _ h => h, fun b u e n => by rw [upd_ne (ne_of_none e hp)]; exact e, fun b u e => upd_stay e, fun b h => .inl h, fun b h => .inl h⟩
/-- a new object that is no cell -/
theorem RM.laid {o : HO} (h : RM K ρ m H) (hp : H p = none) : RM K ρ m (upd H p o) :=
  ⟨h.nd, h.len, fun n c a h1 h2 => (h.at_ n c a h1 h2).mono (ext_new hp) fun u e => by rw [upd_ne (ne_of_none e hp)]; exact e, fun b hb => ⟨(h.zt b hb).1, let ⟨_, e⟩ := (h.zt b hb).2; upd_stay e⟩⟩
/-- .. one that is a value from now on -/
def Lay.frz (ρ : Lay) (p : Addr) : Lay := ⟨ρ.c, ρ.z ++ [p]⟩
def Lay.cel (ρ : Lay) (p : Addr) : Lay := ⟨ρ.c ++ [p], ρ.z⟩
/-- what belongs to nobody may be told of -/
theorem mem_frz {b : Addr} : b ∈ (ρ.frz p).z ↔ b ∈ ρ.z ∨ b = p := by
  show b ∈ ρ.z ++ [p] ↔ _
  rw [List.mem_append, List.mem_singleton]
theorem mem_cel {b : Addr} : b ∈ (ρ.cel p).c ↔ b ∈ ρ.c ∨ b = p := by
  show b ∈ ρ.c ++ [p] ↔ _
  rw [List.mem_append, List.mem_singleton]
structure Own (ρ : Lay) (H0 : Hp) (p : Addr) : Prop where
  c : p ∉ ρ.c
  z : p ∉ ρ.z
  new : H0 p = none
theorem Ext.toFrz {H0 : Hp} {ρ0 : Lay} (e : Ext ρ0 H0 ρ H) (w : Own ρ H0 p) : Ext ρ0 H0 (ρ.frz p) H :=
  ⟨e.pre, fun b h => mem_frz.mpr (.inl (e.zin b h)), e.keep, e.stay, e.oldc, fun b h => by
    rcases mem_frz.mp h with q | q
    · exact e.oldz b q
    · exact .inr (by rw [q]; exact w.new)⟩
theorem Ext.toCel {H0 : Hp} {ρ0 : Lay} (e : Ext ρ0 H0 ρ H) (w : Own ρ H0 p) : Ext ρ0 H0 (ρ.cel p) H :=
  ⟨e.pre.trans (List.prefix_append _ _), e.zin, e.keep, e.stay, fun b h => by
    rcases mem_cel.mp h with q | q
    · exact e.oldc b q
    · exact .inr (by rw [q]; exact w.new), e.oldz⟩
mutual
theorem RV.frz (w : p ∉ ρ.c) : ∀ (x : Vl) {v : V}, RV K ρ H x v → RV K (ρ.frz p) H x v
  | .non, _, h => h
  | .bl _, _, h => h
  | .int _, _, h => h
  | .str _, _, h => h
  | .ty _, _, h => h
  | .glo _, _, h => h
  | .tup xs, _, ⟨a, vs, h1, h2, h3⟩ => ⟨a, vs, h1, h2, RVs.frz w xs h3⟩
  | .lst xs, _, ⟨a, vs, h1, n, h2, h3⟩ => ⟨a, vs, h1, ⟨mem_frz.mpr (.inl n.1), n.2⟩, h2, RVs.frz w xs h3⟩
  | .frl xs, _, ⟨a, vs, h1, h2, h3⟩ => ⟨a, vs, h1, h2, RVs.frz w xs h3⟩
  | .dic xs, _, ⟨a, vs, h1, n, h2, h3⟩ => ⟨a, vs, h1, ⟨mem_frz.mpr (.inl n.1), n.2⟩, h2, RKs.frz w xs h3⟩
  | .dit xs, _, ⟨a, vs, h1, n, h2, h3⟩ => ⟨a, vs, h1, ⟨mem_frz.mpr (.inl n.1), n.2⟩, h2, RTs.frz w xs h3⟩
  | .ins c fs, _, ⟨a, dx, gs, h1, n, h2, h3⟩ => ⟨a, dx, gs, h1, ⟨mem_frz.mpr (.inl n.1), n.2⟩, h2, RFs.frz w fs h3⟩
  | .obj n, _, h => h
  | .err c fs, _, ⟨a, d, gs, h1, n, h2, h3, h4⟩ => ⟨a, d, gs, h1, n, h2, h3, RFs.frz w fs h4⟩
theorem RVs.frz (w : p ∉ ρ.c) : ∀ (xs : List Vl) {vs : List V}, RVs K ρ H xs vs → RVs K (ρ.frz p) H xs vs
  | [], _, h => h
  | x :: xs, _, ⟨v, r, h1, h2, h3⟩ => ⟨v, r, h1, RV.frz w x h2, RVs.frz w xs h3⟩
theorem RKs.frz (w : p ∉ ρ.c) : ∀ (xs : List (Key × Vl)) {vs : List (Key × V)}, RKs K ρ H xs vs → RKs K (ρ.frz p) H xs vs
  | [], _, h => h
  | (k, x) :: xs, _, ⟨v, r, h1, h2, h3⟩ => ⟨v, r, h1, RV.frz w x h2, RKs.frz w xs h3⟩
theorem RTs.frz (w : p ∉ ρ.c) : ∀ (xs : List (List Key × Vl)) {vs : List (List Key × V)}, RTs K ρ H xs vs → RTs K (ρ.frz p) H xs vs
  | [], _, h => h
  | (k, x) :: xs, _, ⟨v, r, h1, h2, h3⟩ => ⟨v, r, h1, RV.frz w x h2, RTs.frz w xs h3⟩
theorem RFs.frz (w : p ∉ ρ.c) : ∀ (xs : List (Str × Vl)) {vs : List (Str × V)}, RFs K ρ H xs vs → RFs K (ρ.frz p) H xs vs
  | [], _, h => h
  | (k, x) :: xs, _, ⟨v, r, h1, h2, h3⟩ => ⟨v, r, h1, RV.frz w x h2, RFs.frz w xs h3⟩
end
/-- what may be a cell -/
def cellK : HO → Bool
  | .lst _ => true
  | .dK _ => true
  | .dT _ => true
  | .ins _ _ _ => true
  | _ => false
theorem tup_cel {vs : List V} {o : HO} (h : TupAt K ρ H a vs) (hp : H p = Option.some o) (hk : cellK o = true) : TupAt K (ρ.cel p) H a vs := by
  rcases h with ⟨n, h⟩ | h
  · refine .inl ⟨fun q => ?_, h⟩
    rcases mem_cel.mp q with q | q
    · exact n q
    · subst q
      rcases h with h | ⟨u, h⟩
      · rw [h] at hp
        cases hp
        cases hk
      · rw [h] at hp
        cases hp
        cases hk
  · exact .inr h
theorem lst_cel {vs : List V} {o : HO} (h : LstAt K ρ H a vs) (hp : H p = Option.some o) (hk : cellK o = true) : LstAt K (ρ.cel p) H a vs := by
  rcases h with ⟨n, u, h⟩ | h
  · refine .inl ⟨fun q => ?_, u, h⟩
    rcases mem_cel.mp q with q | q
    · exact n q
    · subst q
      rw [h] at hp
      cases hp
      cases hk
  · exact .inr h
theorem nz_cel (w : p ∉ ρ.z) {a : Addr} (n : a ∈ ρ.z ∧ a ∉ ρ.c) : a ∈ (ρ.cel p).z ∧ a ∉ (ρ.cel p).c := ⟨n.1, fun q => by
  rcases mem_cel.mp q with q | q
  · exact n.2 q
  · rw [q] at n
    exact w n.1⟩
theorem exq_cel {o : HO} {C : Addr} {d : Option Addr} (n : a ∉ ρ.c) (h : H a = Option.some (exq a C d)) (hp : H p = Option.some o) (hk : cellK o = true) : a ∉ (ρ.cel p).c := fun q => by
  rcases mem_cel.mp q with q | q
  · exact n q
  · subst q
    rw [h] at hp
    cases hp
    cases hk
theorem errD_cel {o : HO} {d : Option Addr} {gs : List (Str × V)} (h : ErrD ρ H d gs) (hp : H p = Option.some o) (hk : cellK o = true) : ErrD (ρ.cel p) H d gs := by
  rcases h with ⟨dd, h1, h2, h3⟩ | h
  · refine .inl ⟨dd, h1, fun q => ?_, h3⟩
    rcases mem_cel.mp q with q | q
    · exact h2 q
    · subst q
      rw [h3] at hp
      cases hp
      cases hk
  · exact .inr h
mutual
theorem RV.cel {o : HO} (w : p ∉ ρ.z) (hp : H p = Option.some o) (hk : cellK o = true) : ∀ (x : Vl) {v : V}, RV K ρ H x v → RV K (ρ.cel p) H x v
  | .non, _, h => h
  | .bl _, _, h => h
  | .int _, _, h => h
  | .str _, _, h => h
  | .ty _, _, h => h
  | .glo _, _, h => h
  | .tup xs, _, ⟨a, vs, h1, h2, h3⟩ => ⟨a, vs, h1, tup_cel h2 hp hk, RVs.cel w hp hk xs h3⟩
  | .lst xs, _, ⟨a, vs, h1, n, h2, h3⟩ => ⟨a, vs, h1, nz_cel w n, h2, RVs.cel w hp hk xs h3⟩
  | .frl xs, _, ⟨a, vs, h1, h2, h3⟩ => ⟨a, vs, h1, lst_cel h2 hp hk, RVs.cel w hp hk xs h3⟩
  | .dic xs, _, ⟨a, vs, h1, n, h2, h3⟩ => ⟨a, vs, h1, nz_cel w n, h2, RKs.cel w hp hk xs h3⟩
  | .dit xs, _, ⟨a, vs, h1, n, h2, h3⟩ => ⟨a, vs, h1, nz_cel w n, h2, RTs.cel w hp hk xs h3⟩
  | .ins c fs, _, ⟨a, dx, gs, h1, n, h2, h3⟩ => ⟨a, dx, gs, h1, nz_cel w n, h2, RFs.cel w hp hk fs h3⟩
  | .obj n, _, ⟨a, h1, h2⟩ => ⟨a, h1, (List.getElem?_append_left (List.getElem?_eq_some_iff.mp h2).1).trans h2⟩
  | .err c fs, _, ⟨a, d, gs, h1, n, h2, h3, h4⟩ => ⟨a, d, gs, h1, exq_cel n h2 hp hk, h2, errD_cel h3 hp hk, RFs.cel w hp hk fs h4⟩
theorem RVs.cel {o : HO} (w : p ∉ ρ.z) (hp : H p = Option.some o) (hk : cellK o = true) : ∀ (xs : List Vl) {vs : List V}, RVs K ρ H xs vs → RVs K (ρ.cel p) H xs vs
  | [], _, h => h
  | x :: xs, _, ⟨v, r, h1, h2, h3⟩ => ⟨v, r, h1, RV.cel w hp hk x h2, RVs.cel w hp hk xs h3⟩
theorem RKs.cel {o : HO} (w : p ∉ ρ.z) (hp : H p = Option.some o) (hk : cellK o = true) : ∀ (xs : List (Key × Vl)) {vs : List (Key × V)}, RKs K ρ H xs vs → RKs K (ρ.cel p) H xs vs
  | [], _, h => h
  | (k, x) :: xs, _, ⟨v, r, h1, h2, h3⟩ => ⟨v, r, h1, RV.cel w hp hk x h2, RKs.cel w hp hk xs h3⟩
theorem RTs.cel {o : HO} (w : p ∉ ρ.z) (hp : H p = Option.some o) (hk : cellK o = true) : ∀ (xs : List (List Key × Vl)) {vs : List (List Key × V)}, RTs K ρ H xs vs → RTs K (ρ.cel p) H xs vs
  | [], _, h => h
  | (k, x) :: xs, _, ⟨v, r, h1, h2, h3⟩ => ⟨v, r, h1, RV.cel w hp hk x h2, RTs.cel w hp hk xs h3⟩
theorem RFs.cel {o : HO} (w : p ∉ ρ.z) (hp : H p = Option.some o) (hk : cellK o = true) : ∀ (xs : List (Str × Vl)) {vs : List (Str × V)}, RFs K ρ H xs vs → RFs K (ρ.cel p) H xs vs
  | [], _, h => h
  | (k, x) :: xs, _, ⟨v, r, h1, h2, h3⟩ => ⟨v, r, h1, RV.cel w hp hk x h2, RFs.cel w hp hk xs h3⟩
end
theorem RC.frz (w : p ∉ ρ.c) : ∀ {c : Cell}, RC K ρ H a c → RC K (ρ.frz p) H a c
  | .lst xs, ⟨vs, h1, h2⟩ => ⟨vs, h1, h2.frz w⟩
  | .dic xs, ⟨vs, h1, h2⟩ => ⟨vs, h1, h2.frz w⟩
  | .dit xs, ⟨vs, h1, h2⟩ => ⟨vs, h1, h2.frz w⟩
  | .ins _ xs, ⟨dx, vs, h1, h2⟩ => ⟨dx, vs, h1, h2.frz w⟩
theorem RC.cel {o : HO} (w : p ∉ ρ.z) (hp : H p = Option.some o) (hk : cellK o = true) : ∀ {c : Cell}, RC K ρ H a c → RC K (ρ.cel p) H a c
  | .lst xs, ⟨vs, h1, h2⟩ => ⟨vs, h1, h2.cel w hp hk⟩
  | .dic xs, ⟨vs, h1, h2⟩ => ⟨vs, h1, h2.cel w hp hk⟩
  | .dit xs, ⟨vs, h1, h2⟩ => ⟨vs, h1, h2.cel w hp hk⟩
  | .ins _ xs, ⟨dx, vs, h1, h2⟩ => ⟨dx, vs, h1, h2.cel w hp hk⟩
theorem RM.toFrz {o : HO} (h : RM K ρ m H) (w : p ∉ ρ.c) (hp : H p = Option.some o) : RM K (ρ.frz p) m H :=
  ⟨h.nd, h.len, fun n c a h1 h2 => (h.at_ n c a h1 h2).frz w, fun b hb => by
    rcases mem_frz.mp hb with q | q
    · exact h.zt b q
    · rw [q]
      exact ⟨w, o, hp⟩⟩
theorem RM.toCel {o : HO} (h : RM K ρ m H) (w : p ∉ ρ.c) (wz : p ∉ ρ.z) (hp : H p = Option.some o) (hk : cellK o = true) (hc : RC K ρ H p c) : RM K (ρ.cel p) (m ++ [c]) H := by
  refine ⟨?_, by show (ρ.c ++ [p]).length = _; rw [List.length_append, List.length_append, h.len]; rfl, fun n d a h1 h2 => ?_, fun b hb => ?_⟩
  · show (ρ.c ++ [p]).Nodup
    rw [List.nodup_append]
    refine ⟨h.nd, by simp, fun x hx y hy e => ?_⟩
    rw [List.mem_singleton] at hy
    subst hy e
    exact w hx
  · have h2' : (ρ.c ++ [p])[n]? = Option.some a := h2
    by_cases q : n < m.length
    · rw [List.getElem?_append_left q] at h1
      rw [List.getElem?_append_left (by rw [h.len]; exact q)] at h2'
      exact (h.at_ n d a h1 h2').cel wz hp hk
    · rw [List.getElem?_append_right (by omega)] at h1
      rw [List.getElem?_append_right (by rw [h.len]; omega), h.len] at h2'
      have e0 : n - m.length = 0 := by
        have := (List.getElem?_eq_some_iff.mp h1).1
        simp at this
        omega
      rw [e0] at h1 h2'
      simp at h1 h2'
      subst h1 h2'
      exact hc.cel wz hp hk
  · obtain ⟨h1, h2⟩ := h.zt b hb
    refine ⟨fun q => ?_, h2⟩
    rcases mem_cel.mp q with q | q
    · exact h1 q
    · rw [q] at hb
      exact wz hb
theorem ext_set {o : HO} (ha : a ∈ ρ.c) : Ext ρ H ρ (upd H a o) :=
  ⟨List.prefix_refl _, fun _ h => h, fun b u e n => by rw [upd_ne (show b ≠ a from fun q => n (by rw [q]; exact ha))]; exact e, fun b u e => upd_stay e, fun b h => .inl h, fun b h => .inl h⟩
/-- a cell is changed -/
theorem RM.put {o : HO} (h : RM K ρ m H) (hn : ρ.c[n]? = Option.some a) (hc : RC K ρ (upd H a o) a c) : RM K ρ (m.set n c) (upd H a o) := by
  refine ⟨h.nd, by rw [List.length_set]; exact h.len, fun i d b h1 h2 => ?_, fun b hb => ⟨(h.zt b hb).1, let ⟨_, e⟩ := (h.zt b hb).2; upd_stay e⟩⟩
  by_cases q : n = i
  · subst q
    have hl : n < m.length := by rw [← h.len]; exact (List.getElem?_eq_some_iff.mp hn).1
    rw [List.getElem?_set_self hl] at h1
    cases h1
    rw [hn] at h2
    cases h2
    exact hc
  · rw [List.getElem?_set_ne q] at h1
    exact (h.at_ i d b h1 h2).mono (ext_set (List.mem_of_getElem? hn)) fun u e => by rw [upd_ne (h.ne h2 hn (Ne.symm q))]; exact e
end
/-! ### slots -/
def RE (K : PySem.W.Frag) (ρ : Lay) (H : Hp) (env : Ev) (σ : L2.St) : Prop := env.length = σ.length ∧ ∀ (i : Nat) (x : Vl), env[i]? = some (some x) → ∃ v, σ[i]? = some (some v) ∧ RV K ρ H x v
theorem RE.mono {K : PySem.W.Frag} {ρ ρ' : Lay} {H H' : Hp} {env : Ev} {σ : L2.St} (h : RE K ρ H env σ) (e : Ext ρ H ρ' H') : RE K ρ' H' env σ :=
  ⟨h.1, fun i x q => let ⟨v, h1, h2⟩ := h.2 i x q; ⟨v, h1, h2.mono e⟩⟩
theorem RE.frz {K : PySem.W.Frag} {ρ : Lay} {H : Hp} {env : Ev} {σ : L2.St} {p : Addr} (h : RE K ρ H env σ) (w : p ∉ ρ.c) : RE K (ρ.frz p) H env σ :=
  ⟨h.1, fun i x q => let ⟨v, h1, h2⟩ := h.2 i x q; ⟨v, h1, h2.frz w⟩⟩
theorem RE.cel {K : PySem.W.Frag} {ρ : Lay} {H : Hp} {env : Ev} {σ : L2.St} {p : Addr} {o : HO} (h : RE K ρ H env σ) (w : p ∉ ρ.z) (hp : H p = Option.some o) (hk : cellK o = true) : RE K (ρ.cel p) H env σ :=
  ⟨h.1, fun i x q => let ⟨v, h1, h2⟩ := h.2 i x q; ⟨v, h1, h2.cel w hp hk⟩⟩
theorem RE.set {K : PySem.W.Frag} {ρ : Lay} {H : Hp} {env : Ev} {σ : L2.St} {i : Nat} {x : Vl} {v : V} (h : RE K ρ H env σ) (q : RV K ρ H x v) : RE K ρ H (env.set i (some x)) (σ.set i (some v)) := by
  refine ⟨by rw [List.length_set, List.length_set]; exact h.1, fun j y e => ?_⟩
  by_cases hj : i = j
  · subst hj
    have hl : i < env.length := by simpa using (List.getElem?_eq_some_iff.mp e).1
    rw [List.getElem?_set_self hl] at e
    cases e
    exact ⟨v, by rw [List.getElem?_set_self (by rw [← h.1]; exact hl)], q⟩
  · rw [List.getElem?_set_ne hj] at e
    rw [List.getElem?_set_ne hj]
    exact h.2 j y e
theorem RE.unset {K : PySem.W.Frag} {ρ : Lay} {H : Hp} {env : Ev} {σ : L2.St} {i : Nat} {o : Option V} (h : RE K ρ H env σ) : RE K ρ H (env.set i none) (σ.set i o) := by
  refine ⟨by rw [List.length_set, List.length_set]; exact h.1, fun j y e => ?_⟩
  by_cases hj : i = j
  · subst hj
    have hl : i < env.length := by simpa using (List.getElem?_eq_some_iff.mp e).1
    rw [List.getElem?_set_self hl] at e
    cases e
  · rw [List.getElem?_set_ne hj] at e
    rw [List.getElem?_set_ne hj]
    exact h.2 j y e
end Z
namespace Z
open PySem PySem.Spec PyProof.Rows L2
/-- an exception in the air: its class by its name, its fields -/
def XD (K : PySem.W.Frag) (ρ : Lay) (H : Hp) (dd : Option Addr) (fs : List (Str × Vl)) : Prop :=
  match dd with
  | some d => ∃ gs, H d = some (.xd gs) ∧ d ∉ ρ.c ∧ RFs K ρ H fs gs
  | none => fs = []
theorem XD.mono {K : PySem.W.Frag} {ρ ρ' : Lay} {H H' : Hp} {dd : Option Addr} {fs : List (Str × Vl)} (h : XD K ρ H dd fs) (e : Ext ρ H ρ' H') : XD K ρ' H' dd fs := by
  cases dd with
  | none => exact h
  | some d =>
    obtain ⟨gs, h1, n, h2⟩ := h
    exact ⟨gs, e.keep d _ h1 n, e.out h1 n, h2.mono e⟩
/-- what is wanted behind a result -/
def Po {α β : Type} (K : PySem.W.Frag) (ρ : Lay) (H : Hp) (Rel : Lay → Hp → α → β → Prop) (W : Value → Option Addr → Hp → Prop) (Q : β → Hp → Prop) (r : R α) (m' : Mem) : Prop :=
  ∀ ρ' H', RM K ρ' m' H' → Ext ρ H ρ' H' → match r with
    | .ok x => ∀ v, Rel ρ' H' x v → Q v H'
    | .ex c fs => ∀ dd, XD K ρ' H' dd fs → W (.ref (He.ga K c)) dd H'
theorem Po.mono {α β : Type} {K : PySem.W.Frag} {ρ ρ1 : Lay} {H H1 : Hp} {Rel : Lay → Hp → α → β → Prop} {W : Value → Option Addr → Hp → Prop} {Q : β → Hp → Prop} {r : R α} {m' : Mem}
    (h : Po K ρ H Rel W Q r m') (e : Ext ρ H ρ1 H1) : Po K ρ1 H1 Rel W Q r m' := fun ρ' H' M E => h ρ' H' M (e.trans E)
/-- a state -/
structure S (K : PySem.W.Frag) (ρ : Lay) (env : Ev) (m : Mem) (σ : L2.St) (H : Hp) : Prop where
  mem : RM K ρ m H
  env : RE K ρ H env σ
theorem S.to {K : PySem.W.Frag} {ρ ρ' : Lay} {env : Ev} {m m' : Mem} {σ : L2.St} {H H' : Hp} (s : S K ρ env m σ H) (e : Ext ρ H ρ' H') (M : RM K ρ' m' H') : S K ρ' env m' σ H' := ⟨M, s.env.mono e⟩
def rdE (K : PySem.W.Frag) (W : WX) (d : DE) : TE := fun σ H Q => ∃ ρ env m r m', S K ρ env m σ H ∧ d env m = some (r, m') ∧ Po K ρ H (RV K) (fun c dd H' => W c dd σ H') Q r m'
abbrev DT := Ev → Mem → Option (R Bool × Mem)
def rdT (K : PySem.W.Frag) (W : WX) (d : DT) : TT := fun σ H Q => ∃ ρ env m r m', S K ρ env m σ H ∧ d env m = some (r, m') ∧ Po K ρ H (fun _ _ (b c : Bool) => b = c) (fun c dd H' => W c dd σ H') Q r m'
abbrev DA := Ev → Mem → Option (R (List Vl) × Mem)
def rdA (K : PySem.W.Frag) (W : WX) (d : DA) : TA := fun σ H Q => ∃ ρ env m r m', S K ρ env m σ H ∧ d env m = some (r, m') ∧ Po K ρ H (RVs K) (fun c dd H' => W c dd σ H') Q r m'
/-- an expression whose value is a new list (tuple): what it holds -/
def rdL (K : PySem.W.Frag) (W : WX) (d : DA) : TE := fun σ H Q => ∃ ρ env m r m', S K ρ env m σ H ∧ d env m = some (r, m') ∧
  Po K ρ H (fun ρ' H' xs v => ∃ a vs, v = .ref a ∧ Own ρ' H a ∧ H' a = some (.lst vs) ∧ vs.length ≤ sizeLine ∧ RVs K ρ' H' xs vs) (fun c dd H' => W c dd σ H') Q r m'
structure SE (X : Cx) (e : Expr) (d : DE) : Prop where
  run : ∀ W, Takes X W → PE X e (rdE X.K W d)
structure ST (X : Cx) (e : Expr) (d : DT) : Prop where
  run : ∀ W, Takes X W → PT X e (rdT X.K W d)
structure SW (X : Cx) (e : Expr) (d : DT) : Prop where
  run : ∀ W, Takes X W → PW X e (rdT X.K W d)
structure SA (X : Cx) (es : List Expr) (d : DA) : Prop where
  run : ∀ W, Takes X W → PA X es (rdA X.K W d)
structure SL (X : Cx) (e : Expr) (d : DA) : Prop where
  run : ∀ W, Takes X W → PE X e (rdL X.K W d)
/-- flows -/
inductive Fl where
  | nx (env : Ev) | rt (v : Vl) | bk (env : Ev) | ct (env : Ev) | ex (c : Str) (fs : List (Str × Vl)) (env : Ev)
abbrev DS := Ev → Mem → Option (Fl × Mem)
def PoS (K : PySem.W.Frag) (ρ : Lay) (H : Hp) (W : WX) (D : Ends) (f : Fl) (m' : Mem) : Prop :=
  ∀ ρ' H', RM K ρ' m' H' → Ext ρ H ρ' H' → match f with
    | .nx env => ∀ σ, RE K ρ' H' env σ → D.nx σ H'
    | .bk env => ∀ σ, RE K ρ' H' env σ → D.bk σ H'
    | .ct env => ∀ σ, RE K ρ' H' env σ → D.ct σ H'
    | .rt x => ∀ v, RV K ρ' H' x v → D.rt v H'
    | .ex c fs env => ∀ σ, RE K ρ' H' env σ → ∀ dd, XD K ρ' H' dd fs → W (.ref (He.ga K c)) dd σ H'
theorem PoS.mono {K : PySem.W.Frag} {ρ ρ1 : Lay} {H H1 : Hp} {W : WX} {D : Ends} {f : Fl} {m' : Mem} (h : PoS K ρ H W D f m') (e : Ext ρ H ρ1 H1) : PoS K ρ1 H1 W D f m' := fun ρ' H' M E => h ρ' H' M (e.trans E)
def rdS (K : PySem.W.Frag) (W : WX) (d : DS) : TS := fun D σ H => ∃ ρ env m f m', S K ρ env m σ H ∧ d env m = some (f, m') ∧ PoS K ρ H W D f m'
structure SS (X : Cx) (st : Stmt) (d : DS) : Prop where
  run : ∀ W, Takes X W → PS X st (rdS X.K W d)
structure SSs (X : Cx) (st : List Stmt) (d : DS) : Prop where
  run : ∀ W, Takes X W → PSs X st (rdS X.K W d)
section
variable {X : Cx} {e a b c : Expr} {pos : Pos}
theorem impPE {t t' : TE} (h : PE X e t) (q : ∀ σ H Q, t' σ H Q → t σ H Q) : PE X e t' := ⟨fun pins s σ H Q I x => h.run pins s σ H Q I (q σ H Q x)⟩
theorem impPT {t t' : TT} (h : PT X e t) (q : ∀ σ H Q, t' σ H Q → t σ H Q) : PT X e t' := ⟨fun pins s σ H Q I x => h.run pins s σ H Q I (q σ H Q x)⟩
theorem impPW {t t' : TT} (h : PW X e t) (q : ∀ σ H Q, t' σ H Q → t σ H Q) : PW X e t' := ⟨fun w pins s σ H Q I x => h.run w pins s σ H Q I (q σ H Q x)⟩
theorem impPA {es : List Expr} {t t' : TA} (h : PA X es t) (q : ∀ σ H Q, t' σ H Q → t σ H Q) : PA X es t' := ⟨fun p pins s σ H Q I x => h.run p pins s σ H Q I (q σ H Q x)⟩
theorem impPS {st : Stmt} {t t' : TS} (h : PS X st t) (q : ∀ D σ H, t' D σ H → t D σ H) : PS X st t' := ⟨fun pins s σ H D I x => h.run pins s σ H D I (q D σ H x)⟩
theorem impPSs {st : List Stmt} {t t' : TS} (h : PSs X st t) (q : ∀ D σ H, t' D σ H → t D σ H) : PSs X st t' := ⟨fun pins s σ H D I x => h.run pins s σ H D I (q D σ H x)⟩
end
section
variable {K : PySem.W.Frag} {W : WX} {ρ : Lay} {env : Ev} {m m1 : Mem} {σ : L2.St} {H : Hp} {d : DE} {dt : DT} {da : DA}
/-- an expression ends in a value -/
theorem goE {x : Vl} {Q : VK} (s : S K ρ env m σ H) (e : d env m = some (.ok x, m1)) (k : ∀ ρ' H' v, S K ρ' env m1 σ H' → Ext ρ H ρ' H' → RV K ρ' H' x v → Q v H') : rdE K W d σ H Q :=
  ⟨ρ, env, m, _, _, s, e, fun ρ' H' M E v r => k ρ' H' v (s.to E M) E r⟩
theorem exE {c : Str} {fs : List (Str × Vl)} {Q : VK} (s : S K ρ env m σ H) (e : d env m = some (.ex c fs, m1)) (k : ∀ ρ' H' dd, S K ρ' env m1 σ H' → Ext ρ H ρ' H' → XD K ρ' H' dd fs → W (.ref (He.ga K c)) dd σ H') : rdE K W d σ H Q :=
  ⟨ρ, env, m, _, _, s, e, fun ρ' H' M E dd r => k ρ' H' dd (s.to E M) E r⟩
theorem goT {x : Bool} {Q : Bool → Hp → Prop} (s : S K ρ env m σ H) (e : dt env m = some (.ok x, m1)) (k : ∀ ρ' H', S K ρ' env m1 σ H' → Ext ρ H ρ' H' → Q x H') : rdT K W dt σ H Q :=
  ⟨ρ, env, m, _, _, s, e, fun ρ' H' M E v r => by subst r; exact k ρ' H' (s.to E M) E⟩
theorem exT {c : Str} {fs : List (Str × Vl)} {Q : Bool → Hp → Prop} (s : S K ρ env m σ H) (e : dt env m = some (.ex c fs, m1)) (k : ∀ ρ' H' dd, S K ρ' env m1 σ H' → Ext ρ H ρ' H' → XD K ρ' H' dd fs → W (.ref (He.ga K c)) dd σ H') : rdT K W dt σ H Q :=
  ⟨ρ, env, m, _, _, s, e, fun ρ' H' M E dd r => k ρ' H' dd (s.to E M) E r⟩
theorem goA {xs : List Vl} {Q : List V → Hp → Prop} (s : S K ρ env m σ H) (e : da env m = some (.ok xs, m1)) (k : ∀ ρ' H' vs, S K ρ' env m1 σ H' → Ext ρ H ρ' H' → RVs K ρ' H' xs vs → Q vs H') : rdA K W da σ H Q :=
  ⟨ρ, env, m, _, _, s, e, fun ρ' H' M E v r => k ρ' H' v (s.to E M) E r⟩
theorem exA {c : Str} {fs : List (Str × Vl)} {Q : List V → Hp → Prop} (s : S K ρ env m σ H) (e : da env m = some (.ex c fs, m1)) (k : ∀ ρ' H' dd, S K ρ' env m1 σ H' → Ext ρ H ρ' H' → XD K ρ' H' dd fs → W (.ref (He.ga K c)) dd σ H') : rdA K W da σ H Q :=
  ⟨ρ, env, m, _, _, s, e, fun ρ' H' M E dd r => k ρ' H' dd (s.to E M) E r⟩
theorem goL {xs : List Vl} {Q : VK} (s : S K ρ env m σ H) (e : da env m = some (.ok xs, m1)) (k : ∀ ρ' H' a vs, S K ρ' env m1 σ H' → Ext ρ H ρ' H' → Own ρ' H a → H' a = some (.lst vs) → vs.length ≤ sizeLine → RVs K ρ' H' xs vs → Q (.ref a) H') : rdL K W da σ H Q :=
  ⟨ρ, env, m, _, _, s, e, fun ρ' H' M E v r => by
    obtain ⟨a, vs, rfl, h1, h3, h4, h5⟩ := r
    exact k ρ' H' a vs (s.to E M) E h1 h3 h4 h5⟩
theorem exL {c : Str} {fs : List (Str × Vl)} {Q : VK} (s : S K ρ env m σ H) (e : da env m = some (.ex c fs, m1)) (k : ∀ ρ' H' dd, S K ρ' env m1 σ H' → Ext ρ H ρ' H' → XD K ρ' H' dd fs → W (.ref (He.ga K c)) dd σ H') : rdL K W da σ H Q :=
  ⟨ρ, env, m, _, _, s, e, fun ρ' H' M E dd r => k ρ' H' dd (s.to E M) E r⟩
end
/-! ### the parts -/
def bindR {α β : Type} (x : Option (R α × Mem)) (f : α → Mem → Option (R β × Mem)) : Option (R β × Mem) := match x with
  | none => none
  | some (.ok a, m) => f a m
  | some (.ex c fs, m) => some (.ex c fs, m)
def dC (v : Vl) : DE := fun _ m => some (.ok v, m)
def dVar (i : Nat) : DE := fun env m => match env[i]? with
  | some (some v) => some (.ok v, m)
  | _ => none
/-- a two-place operation by values -/
abbrev F2 := Vl → Vl → Mem → Option (Vl × Mem)
def okR {α : Type} : Option (α × Mem) → Option (R α × Mem)
  | none => none
  | some (a, m) => some (.ok a, m)
def d2 (f : F2) (da db : DE) : DE := fun env m => bindR (da env m) fun x m => bindR (db env m) fun y m => okR (f x y m)
def SF2 (K : PySem.W.Frag) (f : F2) (r : R2) : Prop := ∀ (ρ : Lay) (m : Mem) (H : Hp) (x y : Vl) (v u : V) (z : Vl) (m' : Mem) (Q : VK), RM K ρ m H → RV K ρ H x v → RV K ρ H y u → f x y m = some (z, m') →
  (∀ ρ' H' w, RM K ρ' m' H' → Ext ρ H ρ' H' → RV K ρ' H' z w → Q w H') → r v u H Q
theorem okR_some {α : Type} {x : Option (α × Mem)} {r : R α} {m : Mem} (h : okR x = some (r, m)) : ∃ a, x = some (a, m) ∧ r = .ok a := by
  cases x with
  | none => cases h
  | some p => cases h; exact ⟨_, rfl, rfl⟩
section
variable {X : Cx} {e a b c : Expr} {pos : Pos} {da db dc : DE}
theorem se_of {v : V} {x : Vl} (h : PE X e (tC v)) (r : ∀ ρ H, RV X.K ρ H x v) : SE X e (dC x) := ⟨fun W tk => impPE h fun σ H Q ⟨ρ, env, m, z, m', s, e, p⟩ => by
  cases e
  exact p ρ H s.mem .refl v (r ρ H)⟩
theorem se_int {i : Int} {j : Nat} : SE X (.Constant (.int i) j pos) (dC (.int i)) := se_of pe_int fun _ _ => rfl
theorem se_bl {i : Bool} {j : Nat} : SE X (.Constant (.bool i) j pos) (dC (.bl i)) := se_of pe_bl fun _ _ => rfl
theorem se_non {j : Nat} : SE X (.Constant .none j pos) (dC .non) := se_of pe_non fun _ _ => rfl
theorem se_str {i : Str} {j : Nat} : SE X (.Constant (.str i) j pos) (dC (.str i)) := se_of pe_str fun _ _ => rfl
theorem se_var {i : Nat} {x : Str} (hN : X.N[i]? = some x) (hv : Vis X.env.scope x) (hd : (x == ("__debug__" : Str)) = false := by decide) (hcd : (x == ("__classdict__" : Str)) = false := by decide) : SE X (.Name x pos) (dVar i) := ⟨fun W tk =>
  impPE (pe_var hN hv hd hcd) fun σ H Q ⟨ρ, env, m, z, m', s, e, p⟩ => by
    unfold dVar at e
    split at e
    · rename_i v hv'
      cases e
      obtain ⟨u, h1, h2⟩ := s.env.2 _ _ hv'
      exact ⟨u, h1, p ρ H s.mem .refl u h2⟩
    · cases e⟩
theorem bindE {β γ : Type} {K : PySem.W.Frag} {W : WX} {ρ : Lay} {env : Ev} {m m' : Mem} {σ : L2.St} {H : Hp} {d : DE} {f : Vl → Mem → Option (R β × Mem)} {z : R β} {Q : VK} {Rel : Lay → Hp → β → γ → Prop} {Qf : γ → Hp → Prop}
    (s : S K ρ env m σ H) (e : bindR (d env m) f = some (z, m')) (p : Po K ρ H Rel (fun c dd H' => W c dd σ H') Qf z m')
    (k : ∀ x m1 ρ' H' v, S K ρ' env m1 σ H' → Ext ρ H ρ' H' → RV K ρ' H' x v → f x m1 = some (z, m') → Po K ρ' H' Rel (fun c dd H' => W c dd σ H') Qf z m' → Q v H') : rdE K W d σ H Q := by
  unfold bindR at e
  split at e
  · cases e
  · rename_i x m1 h
    exact goE s h fun ρ' H' v s' E r => k x m1 ρ' H' v s' E r e (p.mono E)
  · rename_i c fs m1 h
    cases e
    exact exE s h fun ρ' H' dd s' E r => p ρ' H' s'.mem E dd r
theorem se_2 {f : F2} {r : R2} {op : Operator} (ho : OpR X (binaryOp op) r) (hf : SF2 X.K f r) (ha : SE X a da) (hb : SE X b db) : SE X (.BinOp a op b pos) (d2 f da db) := ⟨fun W tk =>
  impPE (pe_op ho (ha.run W tk) (hb.run W tk)) fun σ H Q ⟨ρ, env, m, z, m', s, e, p⟩ =>
    bindE s e p fun x m1 ρ1 H1 v s1 E1 r1 e1 p1 => bindE s1 e1 p1 fun y m2 ρ2 H2 u s2 E2 r2 e2 p2 => by
      obtain ⟨w, h1, rfl⟩ := okR_some e2
      exact hf ρ2 m2 H2 x y v u w m' Q s2.mem (r1.mono E2) r2 h1 fun ρ' H' u' M E r => p2 ρ' H' M E u' r⟩
end
end Z
namespace Z
open PySem PySem.Spec PyProof.Rows L2
section
variable {α : Type} {K : PySem.W.Frag} {W : WX} {ρ : Lay} {env : Ev} {m m' : Mem} {σ : L2.St} {H : Hp}
/-! ### binds to any end -/
theorem bindE' {β : Type} {d : DE} {f : Vl → Mem → Option (R β × Mem)} {z : R β} {Q : VK} {G : Prop}
    (s : S K ρ env m σ H) (e : bindR (d env m) f = some (z, m'))
    (kx : ∀ c fs ρ' H' dd, z = .ex c fs → S K ρ' env m' σ H' → Ext ρ H ρ' H' → XD K ρ' H' dd fs → W (.ref (He.ga K c)) dd σ H')
    (k : ∀ x m1 ρ' H' v, S K ρ' env m1 σ H' → Ext ρ H ρ' H' → RV K ρ' H' x v → f x m1 = some (z, m') → Q v H') : rdE K W d σ H Q := by
  unfold bindR at e
  split at e
  · cases e
  · rename_i x m1 h
    exact goE s h fun ρ' H' v s' E r => k x m1 ρ' H' v s' E r e
  · rename_i c fs m1 h
    cases e
    exact exE s h fun ρ' H' dd s' E r => kx c fs ρ' H' dd rfl s' E r
theorem bindT {β γ : Type} {d : DT} {f : Bool → Mem → Option (R β × Mem)} {z : R β} {Q : Bool → Hp → Prop} {Rel : Lay → Hp → β → γ → Prop} {Qf : γ → Hp → Prop}
    (s : S K ρ env m σ H) (e : bindR (d env m) f = some (z, m')) (p : Po K ρ H Rel (fun c dd H' => W c dd σ H') Qf z m')
    (k : ∀ x m1 ρ' H', S K ρ' env m1 σ H' → Ext ρ H ρ' H' → f x m1 = some (z, m') → Po K ρ' H' Rel (fun c dd H' => W c dd σ H') Qf z m' → Q x H') : rdT K W d σ H Q := by
  unfold bindR at e
  split at e
  · cases e
  · rename_i x m1 h
    exact goT s h fun ρ' H' s' E => k x m1 ρ' H' s' E e (p.mono E)
  · rename_i c fs m1 h
    cases e
    exact exT s h fun ρ' H' dd s' E r => p ρ' H' s'.mem E dd r
theorem bindA {β γ : Type} {d : DA} {f : List Vl → Mem → Option (R β × Mem)} {z : R β} {Q : List V → Hp → Prop} {Rel : Lay → Hp → β → γ → Prop} {Qf : γ → Hp → Prop}
    (s : S K ρ env m σ H) (e : bindR (d env m) f = some (z, m')) (p : Po K ρ H Rel (fun c dd H' => W c dd σ H') Qf z m')
    (k : ∀ x m1 ρ' H' v, S K ρ' env m1 σ H' → Ext ρ H ρ' H' → RVs K ρ' H' x v → f x m1 = some (z, m') → Po K ρ' H' Rel (fun c dd H' => W c dd σ H') Qf z m' → Q v H') : rdA K W d σ H Q := by
  unfold bindR at e
  split at e
  · cases e
  · rename_i x m1 h
    exact goA s h fun ρ' H' v s' E r => k x m1 ρ' H' v s' E r e (p.mono E)
  · rename_i c fs m1 h
    cases e
    exact exA s h fun ρ' H' dd s' E r => p ρ' H' s'.mem E dd r
theorem bindL {β γ : Type} {d : DA} {f : List Vl → Mem → Option (R β × Mem)} {z : R β} {Q : VK} {Rel : Lay → Hp → β → γ → Prop} {Qf : γ → Hp → Prop}
    (s : S K ρ env m σ H) (e : bindR (d env m) f = some (z, m')) (p : Po K ρ H Rel (fun c dd H' => W c dd σ H') Qf z m')
    (k : ∀ x m1 ρ' H' a vs, S K ρ' env m1 σ H' → Ext ρ H ρ' H' → Own ρ' H a → H' a = some (.lst vs) → vs.length ≤ sizeLine → RVs K ρ' H' x vs → f x m1 = some (z, m') → Po K ρ' H' Rel (fun c dd H' => W c dd σ H') Qf z m' → Q (.ref a) H') : rdL K W d σ H Q := by
  unfold bindR at e
  split at e
  · cases e
  · rename_i x m1 h
    exact goL s h fun ρ' H' a vs s' E h1 h3 h4 r => k x m1 ρ' H' a vs s' E h1 h3 h4 r e (p.mono E)
  · rename_i c fs m1 h
    cases e
    exact exL s h fun ρ' H' dd s' E r => p ρ' H' s'.mem E dd r
/-! ### .. within statements -/
def bindS {α : Type} (x : Option (R α × Mem)) (env : Ev) (f : α → Mem → Option (Fl × Mem)) : Option (Fl × Mem) := match x with
  | none => none
  | some (.ok a, m) => f a m
  | some (.ex c fs, m) => some (.ex c fs env, m)
theorem sbE {d : DE} {f : Vl → Mem → Option (Fl × Mem)} {z : Fl} {Q : VK} {D : Ends}
    (s : S K ρ env m σ H) (e : bindS (d env m) env f = some (z, m')) (p : PoS K ρ H W D z m')
    (k : ∀ x m1 ρ' H' v, S K ρ' env m1 σ H' → Ext ρ H ρ' H' → RV K ρ' H' x v → f x m1 = some (z, m') → PoS K ρ' H' W D z m' → Q v H') : rdE K W d σ H Q := by
  unfold bindS at e
  split at e
  · cases e
  · rename_i x m1 h
    exact goE s h fun ρ' H' v s' E r => k x m1 ρ' H' v s' E r e (p.mono E)
  · rename_i c fs m1 h
    cases e
    exact exE s h fun ρ' H' dd s' E r => p ρ' H' s'.mem E σ s'.env dd r
theorem sbT {d : DT} {f : Bool → Mem → Option (Fl × Mem)} {z : Fl} {Q : Bool → Hp → Prop} {D : Ends}
    (s : S K ρ env m σ H) (e : bindS (d env m) env f = some (z, m')) (p : PoS K ρ H W D z m')
    (k : ∀ x m1 ρ' H', S K ρ' env m1 σ H' → Ext ρ H ρ' H' → f x m1 = some (z, m') → PoS K ρ' H' W D z m' → Q x H') : rdT K W d σ H Q := by
  unfold bindS at e
  split at e
  · cases e
  · rename_i x m1 h
    exact goT s h fun ρ' H' s' E => k x m1 ρ' H' s' E e (p.mono E)
  · rename_i c fs m1 h
    cases e
    exact exT s h fun ρ' H' dd s' E r => p ρ' H' s'.mem E σ s'.env dd r
theorem sbA {d : DA} {f : List Vl → Mem → Option (Fl × Mem)} {z : Fl} {Q : List V → Hp → Prop} {D : Ends}
    (s : S K ρ env m σ H) (e : bindS (d env m) env f = some (z, m')) (p : PoS K ρ H W D z m')
    (k : ∀ x m1 ρ' H' v, S K ρ' env m1 σ H' → Ext ρ H ρ' H' → RVs K ρ' H' x v → f x m1 = some (z, m') → PoS K ρ' H' W D z m' → Q v H') : rdA K W d σ H Q := by
  unfold bindS at e
  split at e
  · cases e
  · rename_i x m1 h
    exact goA s h fun ρ' H' v s' E r => k x m1 ρ' H' v s' E r e (p.mono E)
  · rename_i c fs m1 h
    cases e
    exact exA s h fun ρ' H' dd s' E r => p ρ' H' s'.mem E σ s'.env dd r
theorem sbL {d : DA} {f : List Vl → Mem → Option (Fl × Mem)} {z : Fl} {Q : VK} {D : Ends}
    (s : S K ρ env m σ H) (e : bindS (d env m) env f = some (z, m')) (p : PoS K ρ H W D z m')
    (k : ∀ x m1 ρ' H' a vs, S K ρ' env m1 σ H' → Ext ρ H ρ' H' → Own ρ' H a → H' a = some (.lst vs) → vs.length ≤ sizeLine → RVs K ρ' H' x vs → f x m1 = some (z, m') → PoS K ρ' H' W D z m' → Q (.ref a) H') : rdL K W d σ H Q := by
  unfold bindS at e
  split at e
  · cases e
  · rename_i x m1 h
    exact goL s h fun ρ' H' a vs s' E h1 h3 h4 r => k x m1 ρ' H' a vs s' E h1 h3 h4 r e (p.mono E)
  · rename_i c fs m1 h
    cases e
    exact exL s h fun ρ' H' dd s' E r => p ρ' H' s'.mem E σ s'.env dd r
end
/-! ### expressions of all kinds -/
section
variable {X : Cx} {e a b c : Expr} {pos : Pos} {da db dc : DE} {dt du : DT} {es : List Expr} {d : DA}
theorem sa_nil : SA X [] (fun _ m => some (.ok [], m)) := ⟨fun W tk => impPA pa_nil fun σ H Q ⟨ρ, env, m, z, m', s, e, p⟩ => by
  cases e
  exact p ρ H s.mem .refl [] rfl⟩
def dCons (da : DE) (d : DA) : DA := fun env m => bindR (da env m) fun x m => bindR (d env m) fun xs m => some (.ok (x :: xs), m)
theorem sa_cons (ha : SE X e da) (hr : SA X es d) (hs : starEach (e :: es) X.env = (false, eval e X.env) :: starEach es X.env := by rfl) : SA X (e :: es) (dCons da d) := ⟨fun W tk =>
  impPA (pa_cons (ha.run W tk) (hr.run W tk) hs) fun σ H Q ⟨ρ, env, m, z, m', s, e, p⟩ =>
    bindE s e p fun x m1 ρ1 H1 v s1 E1 r1 e1 p1 => bindA s1 e1 p1 fun xs m2 ρ2 H2 vs s2 E2 r2 e2 p2 => by
      cases e2
      exact p2 ρ2 H2 s2.mem .refl _ ⟨v, vs, rfl, r1.mono E2, r2⟩⟩
/-- a written tuple -/
def dTup (d : DA) : DE := fun env m => bindR (d env m) fun xs m => if xs.length ≤ sizeLine then some (.ok (.tup xs), m) else none
theorem se_tup {k : Nat} (h : SA X es d) : SE X (.Tuple es k pos) (dTup d) := ⟨fun W tk =>
  impPE (pe_tup (h.run W tk)) fun σ H Q ⟨ρ, env, m, z, m', s, e, p⟩ => bindA s e p fun xs m1 ρ1 H1 vs s1 E1 r1 e1 p1 => by
    by_cases hz : xs.length ≤ sizeLine
    · rw [if_pos hz] at e1
      cases e1
      refine ⟨by rw [← r1.length]; exact hz, fun q hq => ?_⟩
      refine p1 ρ1 _ (s1.mem.laid hq) (ext_new hq) _ ⟨q, vs, rfl, .inl ⟨s1.mem.fresh hq, .inl upd_same⟩, r1.mono (ext_new hq)⟩
    · rw [if_neg hz] at e1
      cases e1⟩
/-- a written list, whose value is new -/
def dLst (d : DA) : DA := fun env m => bindR (d env m) fun xs m => if xs.length ≤ sizeLine then some (.ok xs, m) else none
theorem sl_lst (h : SA X es d) : SL X (.List es pos) (dLst d) := ⟨fun W tk =>
  impPE (pe_lst (h.run W tk)) fun σ H Q ⟨ρ, env, m, z, m', s, e, p⟩ => bindA s e p fun xs m1 ρ1 H1 vs s1 E1 r1 e1 p1 => by
    by_cases hz : xs.length ≤ sizeLine
    · rw [if_pos hz] at e1
      cases e1
      refine ⟨by rw [← r1.length]; exact hz, fun q hq => ?_⟩
      refine p1 ρ1 _ (s1.mem.laid hq) (ext_new hq) _ ⟨q, vs, rfl, ⟨s1.mem.fresh hq, s1.mem.freshz hq, E1.none hq⟩, upd_same, by rw [← r1.length]; exact hz, r1.mono (ext_new hq)⟩
    · rw [if_neg hz] at e1
      cases e1⟩
/-- a list as a value that nobody changes; as a cell -/
def dFrz (d : DA) : DE := fun env m => bindR (d env m) fun xs m => some (.ok (.lst xs), m)
def dNew (d : DA) : DE := fun env m => bindR (d env m) fun xs m => some (.ok (.obj m.length), m ++ [.lst xs])
theorem S.frz {K : PySem.W.Frag} {ρ : Lay} {env : Ev} {m : Mem} {σ : L2.St} {H : Hp} {p : Addr} {o : HO} (s : S K ρ env m σ H) (w : p ∉ ρ.c) (hp : H p = some o) : S K (ρ.frz p) env m σ H := ⟨s.mem.toFrz w hp, s.env.frz w⟩
theorem S.cel {K : PySem.W.Frag} {ρ : Lay} {env : Ev} {m : Mem} {σ : L2.St} {H : Hp} {p : Addr} {o : HO} {c : Cell} (s : S K ρ env m σ H) (w : p ∉ ρ.c) (wz : p ∉ ρ.z) (hp : H p = some o) (hk : cellK o = true) (hc : RC K ρ H p c) : S K (ρ.cel p) env (m ++ [c]) σ H :=
  ⟨s.mem.toCel w wz hp hk hc, s.env.cel wz hp hk⟩
theorem se_frz (h : SL X e d) : SE X e (dFrz d) := ⟨fun W tk => impPE (h.run W tk) fun σ H Q ⟨ρ, env, m, z, m', s, e, p⟩ => by
  unfold dFrz bindR at e
  split at e
  · cases e
  · rename_i xs m1 h0
    cases e
    refine goL s h0 fun ρ' H' a vs s' E w h3 h4 r => ?_
    exact p (ρ'.frz a) H' (s'.frz w.c h3).mem (E.toFrz w) _ ⟨a, vs, rfl, ⟨mem_frz.mpr (.inr rfl), w.c⟩, h3, r.frz w.c⟩
  · rename_i c fs m1 h0
    cases e
    exact exL s h0 fun ρ' H' dd s' E r => p ρ' H' s'.mem E dd r⟩
theorem se_new (h : SL X e d) : SE X e (dNew d) := ⟨fun W tk => impPE (h.run W tk) fun σ H Q ⟨ρ, env, m, z, m', s, e, p⟩ => by
  unfold dNew bindR at e
  split at e
  · cases e
  · rename_i xs m1 h0
    cases e
    refine goL s h0 fun ρ' H' a vs s' E w h3 h4 r => ?_
    exact p (ρ'.cel a) H' (s'.cel (c := .lst xs) w.c w.z h3 rfl ⟨vs, h3, r⟩).mem (E.toCel w) _ ⟨a, rfl, by
      show (ρ'.c ++ [a])[m1.length]? = some a
      rw [← s'.mem.len]
      simp⟩
  · rename_i c fs m1 h0
    cases e
    exact exL s h0 fun ρ' H' dd s' E r => p ρ' H' s'.mem E dd r⟩
end
end Z
namespace Z
open PySem PySem.Spec PyProof.Rows L2
/-! ### statements -/
section
variable {X : Cx} {st : Stmt} {rest body orelse : List Stmt} {e : Expr} {pos : Pos} {d d1 d2 dt du : DS} {de : DE} {c : DT} {da : DA}
def dNil : DS := fun env m => some (.nx env, m)
theorem sss_nil : SSs X [] dNil := ⟨fun W tk => impPSs pss_nil fun D σ H ⟨ρ, env, m, f, m', s, e, p⟩ => by
  cases e
  exact p ρ H s.mem .refl σ s.env⟩
def thenS (x : Option (Fl × Mem)) (k : Ev → Mem → Option (Fl × Mem)) : Option (Fl × Mem) := match x with
  | some (.nx env, m) => k env m
  | r => r
def dSeq (d1 d2 : DS) : DS := fun env m => thenS (d1 env m) d2
/-- a statement ahead of others -/
theorem rdS_seq {K : PySem.W.Frag} {W : WX} {D : Ends} {σ : L2.St} {H : Hp} (h : rdS K W (dSeq d1 d2) D σ H) : rdS K W d1 { D with nx := rdS K W d2 D } σ H := by
  obtain ⟨ρ, env, m, f, m', s, e, p⟩ := h
  cases h1 : d1 env m with
  | none =>
    unfold dSeq thenS at e
    rw [h1] at e
    cases e
  | some r =>
    obtain ⟨g, m1⟩ := r
    refine ⟨ρ, env, m, g, m1, s, h1, fun ρ' H' M E => ?_⟩
    unfold dSeq thenS at e
    rw [h1] at e
    cases g with
    | nx env1 => exact fun σ1 r1 => ⟨ρ', env1, m1, f, m', ⟨M, r1⟩, e, p.mono E⟩
    | rt v => cases e; exact fun v' r1 => p ρ' H' M E v' r1
    | bk env1 => cases e; exact fun σ1 r1 => p ρ' H' M E σ1 r1
    | ct env1 => cases e; exact fun σ1 r1 => p ρ' H' M E σ1 r1
    | ex k fs env1 => cases e; exact fun σ1 r1 dd x => p ρ' H' M E σ1 r1 dd x
theorem sss_cons (h1 : SS X st d1) (h2 : SSs X rest d2) : SSs X (st :: rest) (dSeq d1 d2) := ⟨fun W tk => impPSs (pss_cons (h1.run W tk) (h2.run W tk)) fun D σ H h => rdS_seq h⟩
theorem sss_one (h1 : SS X st d1) : SSs X [st] d1 := ⟨fun W tk => pss_one (h1.run W tk)⟩
theorem ss_pass : SS X (.Pass pos) dNil := ⟨fun W tk => impPS ps_pass fun D σ H ⟨ρ, env, m, f, m', s, e, p⟩ => by
  cases e
  exact p ρ H s.mem .refl σ s.env⟩
theorem ss_doc {x : Str} {j : Nat} {pos' : Pos} : SS X (.Expr (.Constant (.str x) j pos) pos') dNil := ⟨fun W tk => impPS ps_doc fun D σ H ⟨ρ, env, m, f, m', s, e, p⟩ => by
  cases e
  exact p ρ H s.mem .refl σ s.env⟩
def dBrk : DS := fun env m => some (.bk env, m)
def dCnt : DS := fun env m => some (.ct env, m)
theorem ss_break : SS X (.Break pos) dBrk := ⟨fun W tk => impPS ps_break fun D σ H ⟨ρ, env, m, f, m', s, e, p⟩ => by
  cases e
  exact p ρ H s.mem .refl σ s.env⟩
theorem ss_continue : SS X (.Continue pos) dCnt := ⟨fun W tk => impPS ps_continue fun D σ H ⟨ρ, env, m, f, m', s, e, p⟩ => by
  cases e
  exact p ρ H s.mem .refl σ s.env⟩
def dNever : DS := fun _ _ => none
theorem ss_never : SS X st dNever := ⟨fun W tk => impPS ps_never fun D σ H ⟨ρ, env, m, f, m', s, e, p⟩ => by cases e⟩
def dDrop (d : DE) : DS := fun env m => bindS (d env m) env fun _ m => some (.nx env, m)
theorem ss_expr (he : SE X e de) (hs : swapsWith e none pos.line X.env = pure false := by rfl) : SS X (.Expr e pos) (dDrop de) := ⟨fun W tk =>
  impPS (ps_expr (he.run W tk) hs) fun D σ H ⟨ρ, env, m, f, m', s, e, p⟩ => sbE s e p fun x m1 ρ1 H1 v s1 E1 r1 e1 p1 => by
    cases e1
    exact p1 ρ1 H1 s1.mem .refl σ s1.env⟩
def dRet (d : DE) : DS := fun env m => bindS (d env m) env fun x m => some (.rt x, m)
theorem ss_ret (he : SE X e de) : SS X (.Return (some e) pos) (dRet de) := ⟨fun W tk =>
  impPS (ps_ret (he.run W tk)) fun D σ H ⟨ρ, env, m, f, m', s, e, p⟩ => sbE s e p fun x m1 ρ1 H1 v s1 E1 r1 e1 p1 => by
    cases e1
    exact p1 ρ1 H1 s1.mem .refl v r1⟩
def dRetN : DS := fun _ m => some (.rt .non, m)
theorem ss_retN : SS X (.Return none pos) dRetN := ⟨fun W tk => impPS ps_retN fun D σ H ⟨ρ, env, m, f, m', s, e, p⟩ => by
  cases e
  exact p ρ H s.mem .refl .non rfl⟩
def dIfS (c : DT) (d1 d2 : DS) : DS := fun env m => bindS (c env m) env fun b m => if b = true then d1 env m else d2 env m
theorem ss_if {t : Expr} (hc : ST X t c) (h1 : SSs X body d1) (h2 : SSs X orelse d2) : SS X (.If t body orelse pos) (dIfS c d1 d2) := ⟨fun W tk =>
  impPS (ps_if (hc.run W tk) (h1.run W tk) (h2.run W tk)) fun D σ H ⟨ρ, env, m, f, m', s, e, p⟩ => sbT s e p fun b m1 ρ1 H1 s1 E1 e1 p1 => by
    cases b with
    | true =>
      rw [if_pos rfl] at e1
      show rdS X.K W d1 D σ H1
      exact ⟨ρ1, env, m1, f, m', s1, e1, p1⟩
    | false =>
      rw [if_neg (by decide)] at e1
      show rdS X.K W d2 D σ H1
      exact ⟨ρ1, env, m1, f, m', s1, e1, p1⟩⟩
def dAsg (i : Nat) (d : DE) : DS := fun env m => bindS (d env m) env fun x m => some (.nx (env.set i (some x)), m)
theorem ss_set {i : Nat} {x : Str} {pos' : Pos} (hN : X.N.Nodup) (hi : X.N[i]? = some x) (hx : Loc X.env.scope x) (he : SE X e de) (hs : swapsWith e (some (.Name x pos')) pos.line X.env = pure false := by rfl) (hf : X.fn x = true ∨ X.env.scope.names.lookup x = some .local := by first | exact .inl rfl | exact .inr rfl | assumption) :
    SS X (.Assign [.Name x pos'] e pos) (dAsg i de) := ⟨fun W tk =>
  impPS (ps_set hN hi hx (he.run W tk) hs hf) fun D σ H ⟨ρ, env, m, f, m', s, e, p⟩ => sbE s e p fun x m1 ρ1 H1 v s1 E1 r1 e1 p1 => by
    cases e1
    exact p1 ρ1 H1 s1.mem .refl _ (s1.env.set r1)⟩
/-! ### targets -/
/-- a target: the value, the slots, the memory; the slots and the memory behind it -/
abbrev DG := Vl → Ev → Mem → Option (Ev × Mem)
def rdG (K : PySem.W.Frag) (d : DG) : TG := fun v σ H Q => ∃ ρ env m x env' m', S K ρ env m σ H ∧ RV K ρ H x v ∧ d x env m = some (env', m') ∧ ∀ ρ' H' σ', S K ρ' env' m' σ' H' → Ext ρ H ρ' H' → Q σ' H'
structure SG (X : Cx) (t : Expr) (d : DG) : Prop where
  run : ∀ W, Takes X W → PG X t (rdG X.K d)
def rdGs (K : PySem.W.Frag) (d : List Vl → Ev → Mem → Option (Ev × Mem)) : TGs := fun vs σ H Q => ∃ ρ env m xs env' m', S K ρ env m σ H ∧ RVs K ρ H xs vs ∧ d xs env m = some (env', m') ∧ ∀ ρ' H' σ', S K ρ' env' m' σ' H' → Ext ρ H ρ' H' → Q σ' H'
structure SGs (X : Cx) (ts : List Expr) (d : List Vl → Ev → Mem → Option (Ev × Mem)) : Prop where
  run : ∀ W, Takes X W → PGs X ts (rdGs X.K d)
theorem impPG {t : Expr} {g g' : TG} (h : PG X t g) (q : ∀ v σ H Q, g' v σ H Q → g v σ H Q) : PG X t g' := ⟨fun pins s σ H v u Q I r x => h.run pins s σ H v u Q I r (q v σ H Q x)⟩
theorem impPGs {t : List Expr} {g g' : TGs} (h : PGs X t g) (q : ∀ v σ H Q, g' v σ H Q → g v σ H Q) : PGs X t g' := ⟨fun pins s σ H v u Q I r x => h.run pins s σ H v u Q I r (q v σ H Q x)⟩
def gVar (i : Nat) : DG := fun x env m => some (env.set i (some x), m)
theorem sg_name {i : Nat} {x : Str} (hN : X.N.Nodup) (hi : X.N[i]? = some x) (hx : Loc X.env.scope x) (hf : X.fn x = true ∨ X.env.scope.names.lookup x = some .local := by first | exact .inl rfl | exact .inr rfl | assumption) : SG X (.Name x pos) (gVar i) :=
  ⟨fun W tk => impPG (pg_name hN hi hx hf) fun v σ H Q ⟨ρ, env, m, x, env', m', s, r, e, p⟩ => by
    cases e
    exact p ρ H _ ⟨s.mem, s.env.set r⟩ .refl⟩
def gsNil : List Vl → Ev → Mem → Option (Ev × Mem) := fun xs env m => match xs with
  | [] => some (env, m)
  | _ => none
def gsCons (d : DG) (ds : List Vl → Ev → Mem → Option (Ev × Mem)) : List Vl → Ev → Mem → Option (Ev × Mem) := fun xs env m => match xs with
  | x :: r => (match d x env m with
    | some (env1, m1) => ds r env1 m1
    | none => none)
  | [] => none
theorem sgs_nil : SGs X [] gsNil := ⟨fun W tk => impPGs pgs_nil fun v σ H Q ⟨ρ, env, m, xs, env', m', s, r, e, p⟩ => by
  cases xs with
  | nil =>
    cases e
    exact ⟨r, p ρ H _ s .refl⟩
  | cons x xs => cases e⟩
theorem sgs_cons {t : Expr} {ts : List Expr} {dg : DG} {ds : List Vl → Ev → Mem → Option (Ev × Mem)} (h1 : SG X t dg) (h2 : SGs X ts ds)
    (hs : (assignEach (t :: ts) X.env).map (·.2) = assign t X.env :: (assignEach ts X.env).map (·.2) := by rfl) : SGs X (t :: ts) (gsCons dg ds) := ⟨fun W tk => impPGs (pgs_cons (h1.run W tk) (h2.run W tk) hs) fun v σ H Q ⟨ρ, env, m, xs, env', m', s, r, e, p⟩ => by
  cases xs with
  | nil => cases e
  | cons x xs =>
    obtain ⟨v, vs, rfl, r1, r2⟩ := r
    cases h : dg x env m with
    | none =>
      simp only [gsCons, h] at e
      cases e
    | some q =>
      obtain ⟨env1, m1⟩ := q
      refine ⟨v, vs, rfl, ρ, env, m, x, env1, m1, s, r1, h, fun ρ' H' σ' s' E => ⟨ρ', env1, m1, xs, env', m', s', r2.mono E, ?_, fun ρ2 H2 σ2 s2 E2 => p ρ2 H2 σ2 s2 (E.trans E2)⟩⟩
      simp only [gsCons, h] at e
      exact e⟩
/-- a, b = a tuple -/
def gTupD (ds : List Vl → Ev → Mem → Option (Ev × Mem)) : DG := fun x env m => match x with
  | .tup xs => ds xs env m
  | _ => none
def GsLen (ds : List Vl → Ev → Mem → Option (Ev × Mem)) (n : Nat) : Prop := ∀ xs env m r, ds xs env m = some r → xs.length = n
theorem gsl_nil : GsLen gsNil 0 := fun xs env m r h => by
  cases xs with
  | nil => rfl
  | cons x xs => cases h
theorem gsl_cons {dg : DG} {ds : List Vl → Ev → Mem → Option (Ev × Mem)} {n : Nat} (h : GsLen ds n) : GsLen (gsCons dg ds) (n + 1) := fun xs env m r e => by
  cases xs with
  | nil => cases e
  | cons x xs =>
    cases q : dg x env m with
    | none =>
      simp only [gsCons, q] at e
      cases e
    | some z =>
      simp only [gsCons, q] at e
      rw [List.length_cons, h _ _ _ _ e]
theorem sg_tup {es : List Expr} {k n : Nat} {ds : List Vl → Ev → Mem → Option (Ev × Mem)} (hc : X.calm = true) (h : SGs X es ds) (hl : GsLen ds n)
    (hn : (assignEach es X.env).length = n := by rfl) (hst : (assignEach es X.env).findIdx? (·.1) = none := by rfl) : SG X (.Tuple es k pos) (gTupD ds) := ⟨fun W tk => impPG (pg_tup hc (h.run W tk) hn hst) fun v σ H Q ⟨ρ, env, m, x, env', m', s, r, e, p⟩ => by
  unfold gTupD at e
  split at e
  · rename_i xs
    obtain ⟨a, vs, rfl, h2, h3⟩ := r
    exact ⟨a, vs, rfl, h2.sq, by rw [← h3.length]; exact hl _ _ _ _ e, ρ, env, m, xs, env', m', s, h3, e, p⟩
  · cases e⟩
/-- target = value -/
def dAsgG (g : DG) (d : DE) : DS := fun env m => bindS (d env m) env fun x m => match g x env m with
  | some (env', m') => some (.nx env', m')
  | none => none
theorem ss_asg {tg : Expr} {g : DG} (he : SE X e de) (hg : SG X tg g) (hs : swapsWithSole [tg] e pos.line X.env = pure false := by rfl) (hw : swappedStores [tg] e X.env = pure none := by rfl)
    (h1 : (assignEach [tg] X.env).map (·.2) = [assign tg X.env] := by rfl) : SS X (.Assign [tg] e pos) (dAsgG g de) := ⟨fun W tk =>
  impPS (ps_asg (he.run W tk) (hg.run W tk) hs hw h1) fun D σ H ⟨ρ, env, m, f, m', s, e, p⟩ => sbE s e p fun x m1 ρ1 H1 v s1 E1 r1 e1 p1 => by
    split at e1
    · rename_i env' m2 hg'
      cases e1
      exact ⟨ρ1, env, m1, x, env', _, s1, r1, hg', fun ρ' H' σ' s' E => p1 ρ' H' s'.mem E σ' s'.env⟩
    · cases e1⟩
/-- a, b = x, y -/
def dPar (i j : Nat) (d : DA) : DS := fun env m => bindS (d env m) env fun xs m => match xs with
  | [x, y] => some (.nx ((env.set i (some x)).set j (some y)), m)
  | _ => none
theorem ss_par {i j : Nat} {x y : Str} {a b : Expr} {px py pt : Pos} {kt k2 : Nat} {pt2 : Pos} (hc : X.calm = true) (hN : X.N.Nodup) (hi : X.N[i]? = some x) (hj : X.N[j]? = some y) (hij : i ≠ j)
    (hx : X.env.scope.names.lookup x = some .local) (hy : X.env.scope.names.lookup y = some .local) (ha : SA X [a, b] da)
    (hw : swappedStores [.Tuple [.Name x px, .Name y py] kt pt] (.Tuple [a, b] k2 pt2) X.env = pure (some [x, y]))
    (hs : swapsWithSole [.Tuple [.Name x px, .Name y py] kt pt] (.Tuple [a, b] k2 pt2) pos.line X.env = pure false := by rfl) :
    SS X (.Assign [.Tuple [.Name x px, .Name y py] kt pt] (.Tuple [a, b] k2 pt2) pos) (dPar i j da) := ⟨fun W tk =>
  impPS (ps_par hc hN hi hj hij hx hy (ha.run W tk) hw hs) fun D σ H ⟨ρ, env, m, f, m', s, e, p⟩ => sbA s e p fun xs m1 ρ1 H1 vs s1 E1 r1 e1 p1 => by
    split at e1
    · rename_i x y
      cases e1
      obtain ⟨v, vs, rfl, r2, w, ws, rfl, r3, r4⟩ := r1
      subst r4
      exact ⟨v, w, rfl, p1 ρ1 H1 s1.mem .refl _ ((s1.env.set r2).set r3)⟩
    · cases e1⟩
end
end Z
namespace Z
open PySem PySem.Spec PyProof.Rows L2
/-! ### operators by values -/
def orF (f g : F2) : F2 := fun x y m => match f x y m with
  | some r => some r
  | none => g x y m
section
variable {K : PySem.W.Frag} {f g : F2} {r r' : R2}
theorem sf_or (h : SF2 K f r) (h' : SF2 K g r') : SF2 K (orF f g) (fun x y H Q => r x y H Q ∨ r' x y H Q) := fun ρ m H x y v u z m' Q M a b e k => by
  unfold orF at e
  split at e
  · rename_i q hq
    cases e
    exact .inl (h ρ m H x y v u z m' Q M a b hq k)
  · exact .inr (h' ρ m H x y v u z m' Q M a b e k)
/-! lists that may be written; sequences that may be read -/
def lsD (m : Mem) : Vl → Option (List Vl)
  | .lst xs => some xs
  | .obj n => (match m[n]? with
    | some (.lst xs) => some xs
    | _ => none)
  | _ => none
theorem lsD_ok {ρ : Lay} {m : Mem} {H : Hp} {x : Vl} {v : V} {xs : List Vl} (M : RM K ρ m H) (a : RV K ρ H x v) (h : lsD m x = some xs) : ∃ p vs, v = .ref p ∧ H p = some (.lst vs) ∧ RVs K ρ H xs vs := by
  unfold lsD at h
  split at h
  · cases h
    obtain ⟨p, vs, rfl, _, h1, h2⟩ := a
    exact ⟨p, vs, rfl, h1, h2⟩
  · rename_i n
    split at h
    · rename_i ys hy
      cases h
      obtain ⟨p, rfl, hp⟩ := a
      obtain ⟨vs, h1, h2⟩ := M.at_ _ _ _ hy hp
      exact ⟨p, vs, rfl, h1, h2⟩
    · cases h
  · cases h
def seqD (m : Mem) : Vl → Option (List Vl)
  | .lst xs => some xs
  | .frl xs => some xs
  | .tup xs => some xs
  | .obj n => (match m[n]? with
    | some (.lst xs) => some xs
    | _ => none)
  | _ => none
theorem seqD_ok {ρ : Lay} {m : Mem} {H : Hp} {x : Vl} {v : V} {xs : List Vl} (M : RM K ρ m H) (a : RV K ρ H x v) (h : seqD m x = some xs) : ∃ p vs, v = .ref p ∧ (SqL K H p vs ∨ SqT K H p vs) ∧ RVs K ρ H xs vs := by
  unfold seqD at h
  split at h
  · cases h
    obtain ⟨p, vs, rfl, _, h1, h2⟩ := a
    exact ⟨p, vs, rfl, .inl (SqL.of h1), h2⟩
  · cases h
    obtain ⟨p, vs, rfl, h1, h2⟩ := a
    exact ⟨p, vs, rfl, .inl h1.sq, h2⟩
  · cases h
    obtain ⟨p, vs, rfl, h1, h2⟩ := a
    exact ⟨p, vs, rfl, .inr h1.sq, h2⟩
  · rename_i n
    split at h
    · rename_i ys hy
      cases h
      obtain ⟨p, rfl, hp⟩ := a
      obtain ⟨vs, h1, h2⟩ := M.at_ _ _ _ hy hp
      exact ⟨p, vs, rfl, .inl (SqL.of h1), h2⟩
    · cases h
  · cases h
def lisD (m : Mem) : Vl → Option (List Vl)
  | .tup _ => none
  | x => seqD m x
theorem lisD_ok {ρ : Lay} {m : Mem} {H : Hp} {x : Vl} {v : V} {xs : List Vl} (M : RM K ρ m H) (a : RV K ρ H x v) (h : lisD m x = some xs) : ∃ p vs, v = .ref p ∧ SqL K H p vs ∧ RVs K ρ H xs vs := by
  cases x with
  | lst ys =>
    cases h
    obtain ⟨p, vs, rfl, _, h1, h2⟩ := a
    exact ⟨p, vs, rfl, SqL.of h1, h2⟩
  | frl ys =>
    cases h
    obtain ⟨p, vs, rfl, h1, h2⟩ := a
    exact ⟨p, vs, rfl, h1.sq, h2⟩
  | obj n =>
    have h' : lsD m (.obj n) = some xs := h
    obtain ⟨p, vs, h1, h2, h3⟩ := lsD_ok M a h'
    exact ⟨p, vs, h1, SqL.of h2, h3⟩
  | _ => cases h
/-! ints -/
def intF (C : Int → Int → Bool) (g : Int → Int → Vl) : F2 := fun x y m => match x, y with
  | .int i, .int j => if C i j = true then some (g i j, m) else none
  | _, _ => none
theorem sf_int {C : Int → Int → Bool} {P : Int → Int → Prop} {g : Int → Int → Vl} {gv : Int → Int → V} (hC : ∀ i j, C i j = true → P i j) (hg : ∀ i j ρ H, RV K ρ H (g i j) (gv i j)) : SF2 K (intF C g) (rI P gv) := fun ρ m H x y v u z m' Q M a b e k => by
  unfold intF at e
  split at e
  · rename_i i j
    split at e
    · rename_i c
      cases e
      exact ⟨i, j, a, b, hC i j c, k ρ H _ M .refl (hg i j ρ H)⟩
    · cases e
  · cases e
theorem sf_int0 {g : Int → Int → Vl} {gv : Int → Int → V} (hg : ∀ i j ρ H, RV K ρ H (g i j) (gv i j)) : SF2 K (intF (fun _ _ => true) g) (rI0 gv) := fun ρ m H x y v u z m' Q M a b e k => by
  unfold intF at e
  split at e
  · rename_i i j
    rw [if_pos rfl] at e
    cases e
    exact ⟨i, j, a, b, k ρ H _ M .refl (hg i j ρ H)⟩
  · cases e
def T2 : Int → Int → Bool := fun _ _ => true
def addI : F2 := intF T2 fun i j => .int (i + j)
def subI : F2 := intF T2 fun i j => .int (i - j)
def mulC (i j : Int) : Bool := (decide (-(2 ^ 64) < i) && decide (i < 2 ^ 64)) || (decide (-(2 ^ 64) < j) && decide (j < 2 ^ 64))
def mulI : F2 := intF mulC fun i j => .int (i * j)
def divI : F2 := intF (fun _ j => decide (0 < j) && decide (j < 1073741824)) fun i j => .int (i / j)
def modI : F2 := intF (fun _ j => decide (0 < j)) fun i j => .int (i % j)
def powI : F2 := intF (fun i j => decide (0 ≤ j) && (decide (j ≤ 1000000) && decide (i.natAbs < 2 ^ 64))) fun i j => .int (i ^ j.toNat)
theorem sf_addI : SF2 K addI (rI0 fun i j => .int (i + j)) := sf_int0 fun _ _ _ _ => rfl
theorem sf_subI : SF2 K subI (rI0 fun i j => .int (i - j)) := sf_int0 fun _ _ _ _ => rfl
theorem sf_mulI : SF2 K mulI (rI CMul fun i j => .int (i * j)) := sf_int (fun i j h => by
  unfold mulC at h
  simp only [Bool.or_eq_true, Bool.and_eq_true, decide_eq_true_eq] at h
  exact h) fun _ _ _ _ => rfl
theorem sf_divI : SF2 K divI (rI CDiv fun i j => .int (i / j)) := sf_int (fun i j h => by
  simp only [Bool.and_eq_true, decide_eq_true_eq] at h
  exact h) fun _ _ _ _ => rfl
theorem sf_modI : SF2 K modI (rI (fun _ j => 0 < j) fun i j => .int (i % j)) := sf_int (fun i j h => by
  simp only [decide_eq_true_eq] at h
  exact h) fun _ _ _ _ => rfl
theorem sf_powI : SF2 K powI (rI CPow fun i j => .int (i ^ j.toNat)) := sf_int (fun i j h => by
  simp only [Bool.and_eq_true, decide_eq_true_eq] at h
  exact h) fun _ _ _ _ => rfl
def ltI : F2 := intF T2 fun i j => .bl (decide (i < j))
def leI : F2 := intF T2 fun i j => .bl (decide (i ≤ j))
def gtI : F2 := intF T2 fun i j => .bl (decide (j < i))
def geI : F2 := intF T2 fun i j => .bl (decide (j ≤ i))
theorem sf_ltI : SF2 K ltI (rI0 fun i j => .bl (decide (i < j))) := sf_int0 fun _ _ _ _ => rfl
theorem sf_leI : SF2 K leI (rI0 fun i j => .bl (decide (i ≤ j))) := sf_int0 fun _ _ _ _ => rfl
theorem sf_gtI : SF2 K gtI (rI0 fun i j => .bl (decide (j < i))) := sf_int0 fun _ _ _ _ => rfl
theorem sf_geI : SF2 K geI (rI0 fun i j => .bl (decide (j ≤ i))) := sf_int0 fun _ _ _ _ => rfl
/-! texts, lists, tuples -/
def addS : F2 := fun x y m => match x, y with
  | .str i, .str j => if i.length + j.length ≤ sizeLine then some (.str (i ++ j), m) else none
  | _, _ => none
theorem sf_addS : SF2 K addS (fun x y H Q => ∃ i j, x = .str i ∧ y = .str j ∧ i.length + j.length ≤ sizeLine ∧ Q (.str (i ++ j)) H) := fun ρ m H x y v u z m' Q M a b e k => by
  unfold addS at e
  split at e
  · rename_i i j
    split at e
    · rename_i c
      cases e
      exact ⟨i, j, a, b, c, k ρ H _ M .refl rfl⟩
    · cases e
  · cases e
theorem ext_frz {ρ : Lay} {H : Hp} {p : Addr} {o : HO} {m : Mem} (M : RM K ρ m H) (hp : H p = none) : Ext ρ H (ρ.frz p) (upd H p o) := (ext_new (o := o) hp).toFrz ⟨M.fresh hp, M.freshz hp, hp⟩
theorem rm_frz {ρ : Lay} {H : Hp} {p : Addr} {o : HO} {m : Mem} (M : RM K ρ m H) (hp : H p = none) : RM K (ρ.frz p) m (upd H p o) := (M.laid hp).toFrz (M.fresh hp) upd_same
/-- a new list that nobody changes -/
theorem new_lst {ρ : Lay} {H : Hp} {p : Addr} {m : Mem} {xs : List Vl} {vs : List V} (M : RM K ρ m H) (hp : H p = none) (r : RVs K ρ H xs vs) : RV K (ρ.frz p) (upd H p (.lst vs)) (.lst xs) (.ref p) :=
  ⟨p, vs, rfl, ⟨mem_frz.mpr (.inr rfl), M.fresh hp⟩, upd_same, r.mono (ext_frz M hp)⟩
theorem new_tup {ρ : Lay} {H : Hp} {p : Addr} {m : Mem} {xs : List Vl} {vs : List V} (M : RM K ρ m H) (hp : H p = none) (r : RVs K ρ H xs vs) : RV K ρ (upd H p (.tup vs)) (.tup xs) (.ref p) :=
  ⟨p, vs, rfl, .inl ⟨M.fresh hp, .inl upd_same⟩, r.mono (ext_new hp)⟩
def addL : F2 := fun x y m => match lsD m x, lsD m y with
  | some a, some b => if a.length + b.length ≤ sizeLine then some (.lst (a ++ b), m) else none
  | _, _ => none
theorem sf_addL : SF2 K addL rCat := fun ρ m H x y v u z m' Q M a b e k => by
  unfold addL at e
  split at e
  · rename_i xs ys hx hy
    split at e
    · rename_i c
      cases e
      obtain ⟨p, vs, rfl, h1, h2⟩ := lsD_ok M a hx
      obtain ⟨q, ws, rfl, h3, h4⟩ := lsD_ok M b hy
      exact ⟨p, q, vs, ws, rfl, rfl, h1, h3, by rw [← h2.length, ← h4.length]; exact c, fun n hn => k _ _ _ (rm_frz M hn) (ext_frz M hn) (new_lst M hn (h2.append h4))⟩
    · cases e
  · cases e
def addT : F2 := fun x y m => match x, y with
  | .tup a, .tup b => if (!a.isEmpty && decide (a.length + b.length ≤ sizeLine)) = true then some (.tup (a ++ b), m) else none
  | _, _ => none
theorem RVs.nil_iff {ρ : Lay} {H : Hp} {xs : List Vl} {vs : List V} (r : RVs K ρ H xs vs) : xs = [] ↔ vs = [] := by
  have := r.length
  constructor
  · intro h
    subst h
    exact List.length_eq_zero_iff.mp this.symm
  · intro h
    subst h
    exact List.length_eq_zero_iff.mp this
theorem sf_addT : SF2 K addT (rCatT K) := fun ρ m H x y v u z m' Q M a b e k => by
  unfold addT at e
  split at e
  · rename_i xs ys
    split at e
    · rename_i c
      cases e
      simp only [Bool.and_eq_true, Bool.not_eq_true', decide_eq_true_eq, List.isEmpty_eq_false_iff] at c
      obtain ⟨p, vs, rfl, h1, h2⟩ := a
      obtain ⟨q, ws, rfl, h3, h4⟩ := b
      refine ⟨p, q, vs, ws, rfl, rfl, h1.sq, h3.sq, fun hv => c.1 (h2.nil_iff.mpr hv), by rw [← h2.length, ← h4.length]; exact c.2, fun hw => ?_, fun hw n hn => k _ _ _ (M.laid hn) (ext_new hn) (new_tup M hn (h2.append h4))⟩
      have hy := h4.nil_iff.mpr hw
      subst hy
      refine k ρ H _ M .refl ⟨p, vs, rfl, h1, ?_⟩
      rw [List.append_nil]
      exact h2
    · cases e
  · cases e
def mulL : F2 := fun x y m => match lsD m x, y with
  | some a, .int j => if (decide (-(2 ^ 63) ≤ j) && (decide (j < 2 ^ 63) && decide (a.length * j.toNat ≤ sizeLine))) = true then some (.lst (List.replicate j.toNat a).flatten, m) else none
  | _, _ => none
theorem RVs.rep {ρ : Lay} {H : Hp} {xs : List Vl} {vs : List V} (h : RVs K ρ H xs vs) : ∀ k : Nat, RVs K ρ H (List.replicate k xs).flatten (List.replicate k vs).flatten
  | 0 => rfl
  | k + 1 => by
    rw [List.replicate_succ, List.replicate_succ, List.flatten_cons, List.flatten_cons]
    exact h.append (RVs.rep h k)
theorem sf_mulL : SF2 K mulL rRep := fun ρ m H x y v u z m' Q M a b e k => by
  unfold mulL at e
  split at e
  · rename_i xs j hx
    split at e
    · rename_i c
      cases e
      simp only [Bool.and_eq_true, decide_eq_true_eq] at c
      obtain ⟨p, vs, rfl, h1, h2⟩ := lsD_ok M a hx
      exact ⟨p, j, vs, rfl, b, h1, c.1, c.2.1, by rw [← h2.length]; exact c.2.2, fun n hn => k _ _ _ (rm_frz M hn) (ext_frz M hn) (new_lst M hn (h2.rep _))⟩
    · cases e
  · cases e
/-! data -/
mutual
def toD : Vl → Option PyData
  | .non => some .none
  | .bl b => some (.bool b)
  | .int i => some (.int i)
  | .str x => some (.str x)
  | .tup xs => (match toDs xs with
    | some ds => some (.tuple ds)
    | none => none)
  | .lst xs => (match toDs xs with
    | some ds => some (.list ds)
    | none => none)
  | .frl xs => (match toDs xs with
    | some ds => some (.list ds)
    | none => none)
  | _ => none
def toDs : List Vl → Option (List PyData)
  | [] => some []
  | x :: xs => (match toD x with
    | some d => (match toDs xs with
      | some ds => some (d :: ds)
      | none => none)
    | none => none)
end
mutual
theorem toD_ok {ρ : Lay} {H : Hp} : ∀ {x : Vl} {v : V} {d : PyData}, RV K ρ H x v → toD x = some d → Dp K H v d
  | .non, _, _, h, e => by
    cases e
    rw [show _ = V.non from h]
    exact .non
  | .bl b, _, _, h, e => by
    cases e
    rw [show _ = V.bl b from h]
    exact .bl b
  | .int b, _, _, h, e => by
    cases e
    rw [show _ = V.int b from h]
    exact .int b
  | .str b, _, _, h, e => by
    cases e
    rw [show _ = V.str b from h]
    exact .str b
  | .tup xs, _, _, ⟨a, vs, h1, h2, h3⟩, e => by
    subst h1
    unfold toD at e
    split at e
    · rename_i ds hd
      cases e
      exact .tup h2.sq (toDs_ok h3 hd)
    · cases e
  | .lst xs, _, _, ⟨a, vs, h1, _, h2, h3⟩, e => by
    subst h1
    unfold toD at e
    split at e
    · rename_i ds hd
      cases e
      exact .lst (SqL.of h2) (toDs_ok h3 hd)
    · cases e
  | .frl xs, _, _, ⟨a, vs, h1, h2, h3⟩, e => by
    subst h1
    unfold toD at e
    split at e
    · rename_i ds hd
      cases e
      exact .lst h2.sq (toDs_ok h3 hd)
    · cases e
  | .ty _, _, _, _, e => by cases e
  | .glo _, _, _, _, e => by cases e
  | .dic _, _, _, _, e => by cases e
  | .dit _, _, _, _, e => by cases e
  | .ins _ _, _, _, _, e => by cases e
  | .obj _, _, _, _, e => by cases e
  | .err _ _, _, _, _, e => by cases e
theorem toDs_ok {ρ : Lay} {H : Hp} : ∀ {xs : List Vl} {vs : List V} {ds : List PyData}, RVs K ρ H xs vs → toDs xs = some ds → DpAll K H vs ds
  | [], _, _, h, e => by
    cases e
    rw [show _ = [] from h]
    exact .nil
  | x :: xs, _, _, ⟨v, r, h1, h2, h3⟩, e => by
    subst h1
    unfold toDs at e
    split at e
    · rename_i d hd
      split at e
      · rename_i ds hds
        cases e
        exact .cons (toD_ok h2 hd) (toDs_ok h3 hds)
      · cases e
    · cases e
end
def toDm (m : Mem) : Vl → Option PyData
  | .obj n => (match m[n]? with
    | some (.lst xs) => (match toDs xs with
      | some ds => some (.list ds)
      | none => none)
    | _ => none)
  | x => toD x
theorem toDm_ok {ρ : Lay} {m : Mem} {H : Hp} {x : Vl} {v : V} {d : PyData} (M : RM K ρ m H) (h : RV K ρ H x v) (e : toDm m x = some d) : Dp K H v d := by
  unfold toDm at e
  split at e
  · rename_i n
    split at e
    · rename_i xs hx
      split at e
      · rename_i ds hd
        cases e
        obtain ⟨p, rfl, hp⟩ := h
        obtain ⟨vs, h1, h2⟩ := M.at_ _ _ _ hx hp
        exact .lst (SqL.of h1) (toDs_ok h2 hd)
      · cases e
    · cases e
  · exact toD_ok h e
def datF (g : PyData → PyData → Bool) : F2 := fun x y m => match toDm m x, toDm m y with
  | some d, some e => if (SeqAt.shaped d && SeqAt.shaped e) = true then some (.bl (g d e), m) else none
  | _, _ => none
def eqW : F2 := datF PyData.eqv
def neW : F2 := datF fun d e => !PyData.eqv d e
theorem sf_eqW : SF2 K eqW (rEqD K) := fun ρ m H x y v u z m' Q M a b e k => by
  unfold eqW datF at e
  split at e
  · rename_i d d' hd hd'
    split at e
    · rename_i c
      cases e
      rw [Bool.and_eq_true] at c
      exact ⟨d, d', toDm_ok M a hd, toDm_ok M b hd', c.1, c.2, k ρ H _ M .refl rfl⟩
    · cases e
  · cases e
theorem sf_neW : SF2 K neW (rNeD K) := fun ρ m H x y v u z m' Q M a b e k => by
  unfold neW datF at e
  split at e
  · rename_i d d' hd hd'
    split at e
    · rename_i c
      cases e
      rw [Bool.and_eq_true] at c
      exact ⟨d, d', toDm_ok M a hd, toDm_ok M b hd', c.1, c.2, k ρ H _ M .refl rfl⟩
    · cases e
  · cases e
/-! in -/
def flatL : Vl → Option V
  | .non => some .non
  | .bl b => some (.bl b)
  | .int i => some (.int i)
  | .str x => some (.str x)
  | _ => none
theorem flatL_ok {ρ : Lay} {H : Hp} {x : Vl} {v w : V} (a : RV K ρ H x v) (h : flatL x = some w) : v = w ∧ flatV w = true := by
  cases x <;> first | (cases h; exact ⟨a, rfl⟩) | cases h
/-- == of flat values -/
def eqS (g : Bool → Bool) : F2 := fun x y m => match flatL x, flatL y with
  | some u, some w => if scal u w = true then some (.bl (g (decide (u = w))), m) else none
  | _, _ => none
theorem sf_eqS : SF2 K (eqS id) rEq := fun ρ m H x y v u z m' Q M a b e k => by
  unfold eqS at e
  split at e
  · rename_i p q hp hq
    split at e
    · rename_i c
      cases e
      obtain ⟨rfl, _⟩ := flatL_ok a hp
      obtain ⟨rfl, _⟩ := flatL_ok b hq
      exact ⟨c, k ρ H _ M .refl rfl⟩
    · cases e
  · cases e
theorem sf_neS : SF2 K (eqS not) rNe := fun ρ m H x y v u z m' Q M a b e k => by
  unfold eqS at e
  split at e
  · rename_i p q hp hq
    split at e
    · rename_i c
      cases e
      obtain ⟨rfl, _⟩ := flatL_ok a hp
      obtain ⟨rfl, _⟩ := flatL_ok b hq
      exact ⟨c, k ρ H _ M .refl rfl⟩
    · cases e
  · cases e
def eqF : F2 := orF (eqS id) eqW
def neF : F2 := orF (eqS not) neW
theorem sf_eq : SF2 K eqF (fun x y H Q => rEq x y H Q ∨ rEqD K x y H Q) := sf_or sf_eqS sf_eqW
theorem sf_ne : SF2 K neF (fun x y H Q => rNe x y H Q ∨ rNeD K x y H Q) := sf_or sf_neS sf_neW
def flatLs : List Vl → Option (List V)
  | [] => some []
  | x :: xs => (match flatL x with
    | some v => (match flatLs xs with
      | some vs => some (v :: vs)
      | none => none)
    | none => none)
theorem flatLs_ok {ρ : Lay} {H : Hp} : ∀ {xs : List Vl} {vs ws : List V}, RVs K ρ H xs vs → flatLs xs = some ws → vs = ws ∧ ws.all flatV = true
  | [], _, _, h, e => by
    cases e
    exact ⟨h, rfl⟩
  | x :: xs, _, _, ⟨v, r, h1, h2, h3⟩, e => by
    unfold flatLs at e
    split at e
    · rename_i w hw
      split at e
      · rename_i ws hws
        cases e
        obtain ⟨e1, f1⟩ := flatL_ok h2 hw
        obtain ⟨e2, f2⟩ := flatLs_ok h3 hws
        subst h1 e1 e2
        exact ⟨rfl, by rw [List.all_cons, f1, f2] <;> rfl⟩
      · cases e
    · cases e
def inS (neg : Bool) : F2 := fun x y m => match seqD m y with
  | some ys => (match flatL x, flatLs ys with
    | some v, some vs => some (.bl (if neg then !inV v vs else inV v vs), m)
    | _, _ => none)
  | none => none
theorem sf_in {neg : Bool} : SF2 K (inS neg) (rIn K neg) := fun ρ m H x y v u z m' Q M a b e k => by
  unfold inS at e
  split at e
  · rename_i ys hy
    split at e
    · rename_i w ws hw hws
      cases e
      obtain ⟨p, vs, rfl, h1, h2⟩ := seqD_ok M b hy
      obtain ⟨e1, f1⟩ := flatL_ok a hw
      obtain ⟨e2, f2⟩ := flatLs_ok h2 hws
      subst e1 e2
      exact ⟨p, _, rfl, h1, f1, f2, k ρ H _ M .refl rfl⟩
    · cases e
  · cases e
def inT (neg : Bool) : F2 := fun x y m => match x, y with
  | .str i, .str j => some (.bl (if neg then !(!(Builtin.Str.occurrences j i 0 j.length 1).isEmpty) else !(Builtin.Str.occurrences j i 0 j.length 1).isEmpty), m)
  | _, _ => none
theorem sf_inT : SF2 K (inT false) (fun x y H Q => ∃ i j, x = .str i ∧ y = .str j ∧ Q (.bl (!(Builtin.Str.occurrences j i 0 j.length 1).isEmpty)) H) := fun ρ m H x y v u z m' Q M a b e k => by
  unfold inT at e
  split at e
  · rename_i i j
    cases e
    exact ⟨i, j, a, b, k ρ H _ M .refl rfl⟩
  · cases e
theorem sf_notInT : SF2 K (inT true) (fun x y H Q => ∃ i j, x = .str i ∧ y = .str j ∧ Q (.bl (!(!(Builtin.Str.occurrences j i 0 j.length 1).isEmpty))) H) := fun ρ m H x y v u z m' Q M a b e k => by
  unfold inT at e
  split at e
  · rename_i i j
    cases e
    exact ⟨i, j, a, b, k ρ H _ M .refl rfl⟩
  · cases e
def inDl (neg : Bool) : F2 := fun x y m => match toDm m x, toDm m y with
  | some d, some (.list ds) => if (SeqAt.shaped d && SeqAt.shaped (.list ds)) = true then some (.bl (if neg then !ds.any fun z => PyData.eqv z d else ds.any fun z => PyData.eqv z d), m) else none
  | _, _ => none
theorem sf_inD : SF2 K (inDl false) (rInD K) := fun ρ m H x y v u z m' Q M a b e k => by
  unfold inDl at e
  split at e
  · rename_i d ds hd hd'
    split at e
    · rename_i c
      cases e
      rw [Bool.and_eq_true] at c
      exact ⟨d, ds, toDm_ok M a hd, toDm_ok M b hd', c.1, c.2, k ρ H _ M .refl rfl⟩
    · cases e
  · cases e
theorem sf_notInD : SF2 K (inDl true) (rNotInD K) := fun ρ m H x y v u z m' Q M a b e k => by
  unfold inDl at e
  split at e
  · rename_i d ds hd hd'
    split at e
    · rename_i c
      cases e
      rw [Bool.and_eq_true] at c
      exact ⟨d, ds, toDm_ok M a hd, toDm_ok M b hd', c.1, c.2, k ρ H _ M .refl rfl⟩
    · cases e
  · cases e
/-! is -/
def isN (neg : Bool) : F2 := fun x y m => match y with
  | .non => (match x with
    | .non => some (.bl (!neg), m)
    | _ => some (.bl neg, m))
  | _ => none
theorem RV.notNon {ρ : Lay} {H : Hp} {x : Vl} {v : V} (a : RV K ρ H x v) (h : match x with | .non => False | _ => True) : decide (v = V.non) = false := by
  cases x with
  | non => exact h.elim
  | err _ _ => obtain ⟨_, _, _, rfl, _⟩ := a; rfl
  | bl b => rw [show v = _ from a]; rfl
  | int b => rw [show v = _ from a]; rfl
  | str b => rw [show v = _ from a]; rfl
  | ty b => rw [show v = _ from a]; rfl
  | glo b => rw [show v = _ from a]; rfl
  | tup b => obtain ⟨_, _, rfl, _⟩ := a; rfl
  | lst b => obtain ⟨_, _, rfl, _⟩ := a; rfl
  | frl b => obtain ⟨_, _, rfl, _⟩ := a; rfl
  | dic b => obtain ⟨_, _, rfl, _⟩ := a; rfl
  | dit b => obtain ⟨_, _, rfl, _⟩ := a; rfl
  | ins b c => obtain ⟨_, _, _, rfl, _⟩ := a; rfl
  | obj b => obtain ⟨_, rfl, _⟩ := a; rfl
theorem sf_isN : SF2 K (isN false) (fun x y H Q => y = .non ∧ Q (.bl (decide (x = .non))) H) := fun ρ m H x y v u z m' Q M a b e k => by
  unfold isN at e
  split at e
  · refine ⟨b, ?_⟩
    split at e
    · cases e
      rw [show v = V.non from a]
      exact k ρ H _ M .refl rfl
    · rename_i h1
      cases e
      rw [a.notNon (by cases x <;> first | trivial | exact h1 rfl)]
      exact k ρ H _ M .refl rfl
  · cases e
theorem sf_notN : SF2 K (isN true) (fun x y H Q => y = .non ∧ Q (.bl (!decide (x = .non))) H) := fun ρ m H x y v u z m' Q M a b e k => by
  unfold isN at e
  split at e
  · refine ⟨b, ?_⟩
    split at e
    · cases e
      rw [show v = V.non from a]
      exact k ρ H _ M .refl rfl
    · rename_i h1
      cases e
      rw [a.notNon (by cases x <;> first | trivial | exact h1 rfl)]
      exact k ρ H _ M .refl rfl
  · cases e
def isB (neg : Bool) : F2 := fun x y m => match x, y with
  | .bl a, .bl b => some (.bl (if neg then !decide (a = b) else decide (a = b)), m)
  | _, _ => none
theorem sf_isB : SF2 K (isB false) rIsB := fun ρ m H x y v u z m' Q M a b e k => by
  unfold isB at e
  split at e
  · cases e
    exact ⟨_, _, a, b, k ρ H _ M .refl rfl⟩
  · cases e
theorem sf_notB : SF2 K (isB true) rNotB := fun ρ m H x y v u z m' Q M a b e k => by
  unfold isB at e
  split at e
  · cases e
    exact ⟨_, _, a, b, k ρ H _ M .refl rfl⟩
  · cases e
end
end Z
namespace Z
open PySem PySem.Spec PyProof.Rows L2
section
variable {X : Cx} {e a b c : Expr} {pos : Pos} {da db dc : DE} {dt du : DT} {es rest : List Expr} {d : DA} {f : F2} {r : R2}
/-! ### comparisons -/
theorem se_cmp {op : CmpOp} (ho : OpR X (compareOp op) r) (hf : SF2 X.K f r) (ha : SE X a da) (hb : SE X b db) (hm : behindInMarks op b = false) : SE X (.Compare a [op] [b] pos) (d2 f da db) := ⟨fun W tk =>
  impPE (pe_cmpR ho (ha.run W tk) (hb.run W tk) hm) fun σ H Q ⟨ρ, env, m, z, m', s, e, p⟩ =>
    bindE s e p fun x m1 ρ1 H1 v s1 E1 r1 e1 p1 => bindE s1 e1 p1 fun y m2 ρ2 H2 u s2 E2 r2 e2 p2 => by
      obtain ⟨w, h1, rfl⟩ := okR_some e2
      exact hf ρ2 m2 H2 x y v u w m' Q s2.mem (r1.mono E2) r2 h1 fun ρ' H' u' M E r => p2 ρ' H' M E u' r⟩
/-- a value that is a bool -/
def asB : Vl → Option Bool
  | .bl b => some b
  | _ => none
def b2 (f : F2) (da db : DE) : DT := fun env m => bindR (da env m) fun x m => bindR (db env m) fun y m => match f x y m with
  | some (.bl k, m) => some (.ok k, m)
  | _ => none
theorem st_cmp {op : CmpOp} (ho : OpR X (compareOp op) r) (hf : SF2 X.K f r) (ha : SE X a da) (hb : SE X b db) (hm : behindInMarks op b = false) : ST X (.Compare a [op] [b] pos) (b2 f da db) := ⟨fun W tk =>
  impPT (pt_cmpR ho (ha.run W tk) (hb.run W tk) hm) fun σ H Q ⟨ρ, env, m, z, m', s, e, p⟩ =>
    bindE s e p fun x m1 ρ1 H1 v s1 E1 r1 e1 p1 => bindE s1 e1 p1 fun y m2 ρ2 H2 u s2 E2 r2 e2 p2 => by
      split at e2
      · rename_i k m3 h1
        cases e2
        exact hf ρ2 m2 H2 x y v u _ m' _ s2.mem (r1.mono E2) r2 h1 fun ρ' H' u' M E r => ⟨k, r, p2 ρ' H' M E k rfl⟩
      · cases e2⟩
/-! the operators by their kinds -/
def eqA : F2 := eqF
def addA : F2 := orF addI (orF addS (orF addL addT))
def mulA : F2 := orF mulI mulL
theorem se_add (ha : SE X a da) (hb : SE X b db) : SE X (.BinOp a .Add b pos) (d2 addA da db) := se_2 (OpR.or op_add (OpR.or op_add_str (OpR.or op_cat op_catT))) (sf_or sf_addI (sf_or sf_addS (sf_or sf_addL sf_addT))) ha hb
theorem se_sub (ha : SE X a da) (hb : SE X b db) : SE X (.BinOp a .Sub b pos) (d2 subI da db) := se_2 op_sub sf_subI ha hb
theorem se_mul (ha : SE X a da) (hb : SE X b db) : SE X (.BinOp a .Mult b pos) (d2 mulA da db) := se_2 (OpR.or op_mul op_rep) (sf_or sf_mulI sf_mulL) ha hb
theorem se_div (ha : SE X a da) (hb : SE X b db) : SE X (.BinOp a .FloorDiv b pos) (d2 divI da db) := se_2 op_fdiv sf_divI ha hb
theorem se_mod (ha : SE X a da) (hb : SE X b db) : SE X (.BinOp a .Mod b pos) (d2 modI da db) := se_2 op_mod sf_modI ha hb
theorem se_pow (ha : SE X a da) (hb : SE X b db) : SE X (.BinOp a .Pow b pos) (d2 powI da db) := se_2 op_pow sf_powI ha hb
def neg1 (da : DE) : DE := fun env m => bindR (da env m) fun x m => match x with
  | .int i => some (.ok (.int (-i)), m)
  | _ => none
theorem se_neg (ha : SE X a da) : SE X (.UnaryOp .USub a pos) (neg1 da) := ⟨fun W tk => impPE (pe_un un_neg (ha.run W tk)) fun σ H Q ⟨ρ, env, m, z, m', s, e, p⟩ => bindE s e p fun x m1 ρ1 H1 v s1 E1 r1 e1 p1 => by
    split at e1
    · rename_i i
      cases e1
      exact ⟨i, r1, p1 ρ1 H1 s1.mem .refl _ rfl⟩
    · cases e1⟩
theorem se_eq (hu : X.A.units + 64 < cLine) (ha : SE X a da) (hb : SE X b db) : SE X (.Compare a [.Eq] [b] pos) (d2 eqF da db) := se_cmp (OpR.or op_eq (op_eqD hu)) sf_eq ha hb (nomark _)
theorem se_ne (hu : X.A.units + 64 < cLine) (ha : SE X a da) (hb : SE X b db) : SE X (.Compare a [.NotEq] [b] pos) (d2 neF da db) := se_cmp (OpR.or op_ne (op_neD hu)) sf_ne ha hb (nomark _)
theorem st_eq (hu : X.A.units + 64 < cLine) (ha : SE X a da) (hb : SE X b db) : ST X (.Compare a [.Eq] [b] pos) (b2 eqF da db) := st_cmp (OpR.or op_eq (op_eqD hu)) sf_eq ha hb (nomark _)
theorem st_ne (hu : X.A.units + 64 < cLine) (ha : SE X a da) (hb : SE X b db) : ST X (.Compare a [.NotEq] [b] pos) (b2 neF da db) := st_cmp (OpR.or op_ne (op_neD hu)) sf_ne ha hb (nomark _)
theorem se_lt (ha : SE X a da) (hb : SE X b db) : SE X (.Compare a [.Lt] [b] pos) (d2 ltI da db) := se_cmp op_lt sf_ltI ha hb (nomark _)
theorem se_le (ha : SE X a da) (hb : SE X b db) : SE X (.Compare a [.LtE] [b] pos) (d2 leI da db) := se_cmp op_le sf_leI ha hb (nomark _)
theorem se_gt (ha : SE X a da) (hb : SE X b db) : SE X (.Compare a [.Gt] [b] pos) (d2 gtI da db) := se_cmp op_gt sf_gtI ha hb (nomark _)
theorem se_ge (ha : SE X a da) (hb : SE X b db) : SE X (.Compare a [.GtE] [b] pos) (d2 geI da db) := se_cmp op_ge sf_geI ha hb (nomark _)
theorem st_lt (ha : SE X a da) (hb : SE X b db) : ST X (.Compare a [.Lt] [b] pos) (b2 ltI da db) := st_cmp op_lt sf_ltI ha hb (nomark _)
theorem st_le (ha : SE X a da) (hb : SE X b db) : ST X (.Compare a [.LtE] [b] pos) (b2 leI da db) := st_cmp op_le sf_leI ha hb (nomark _)
theorem st_gt (ha : SE X a da) (hb : SE X b db) : ST X (.Compare a [.Gt] [b] pos) (b2 gtI da db) := st_cmp op_gt sf_gtI ha hb (nomark _)
theorem st_ge (ha : SE X a da) (hb : SE X b db) : ST X (.Compare a [.GtE] [b] pos) (b2 geI da db) := st_cmp op_ge sf_geI ha hb (nomark _)
def isA (neg : Bool) : F2 := orF (isN neg) (isB neg)
theorem se_is (ha : SE X a da) (hb : SE X b db) : SE X (.Compare a [.Is] [b] pos) (d2 (isA false) da db) := se_cmp (OpR.or op_isN op_isBl) (sf_or sf_isN sf_isB) ha hb (nomark _)
theorem se_isnot (ha : SE X a da) (hb : SE X b db) : SE X (.Compare a [.IsNot] [b] pos) (d2 (isA true) da db) := se_cmp (OpR.or op_notN op_notBl) (sf_or sf_notN sf_notB) ha hb (nomark _)
theorem st_is (ha : SE X a da) (hb : SE X b db) : ST X (.Compare a [.Is] [b] pos) (b2 (isA false) da db) := st_cmp (OpR.or op_isN op_isBl) (sf_or sf_isN sf_isB) ha hb (nomark _)
theorem st_isnot (ha : SE X a da) (hb : SE X b db) : ST X (.Compare a [.IsNot] [b] pos) (b2 (isA true) da db) := st_cmp (OpR.or op_notN op_notBl) (sf_or sf_notN sf_notB) ha hb (nomark _)
def inA (neg : Bool) : F2 := orF (inS neg) (orF (inT neg) (inDl neg))
theorem se_in (hu : X.A.units + 65 < cLine) (ha : SE X a da) (hb : SE X b db) (hm : behindInMarks .In b = false := by rfl) : SE X (.Compare a [.In] [b] pos) (d2 (inA false) da db) := se_cmp (OpR.or op_in_seq (OpR.or op_in_str (op_inD hu))) (sf_or sf_in (sf_or sf_inT sf_inD)) ha hb hm
theorem se_notin (hu : X.A.units + 65 < cLine) (ha : SE X a da) (hb : SE X b db) (hm : behindInMarks .NotIn b = false := by rfl) : SE X (.Compare a [.NotIn] [b] pos) (d2 (inA true) da db) := se_cmp (OpR.or op_notIn_seq (OpR.or op_notIn_str (op_notInD hu))) (sf_or sf_in (sf_or sf_notInT sf_notInD)) ha hb hm
theorem st_in (hu : X.A.units + 65 < cLine) (ha : SE X a da) (hb : SE X b db) (hm : behindInMarks .In b = false := by rfl) : ST X (.Compare a [.In] [b] pos) (b2 (inA false) da db) := st_cmp (OpR.or op_in_seq (OpR.or op_in_str (op_inD hu))) (sf_or sf_in (sf_or sf_inT sf_inD)) ha hb hm
theorem st_notin (hu : X.A.units + 65 < cLine) (ha : SE X a da) (hb : SE X b db) (hm : behindInMarks .NotIn b = false := by rfl) : ST X (.Compare a [.NotIn] [b] pos) (b2 (inA true) da db) := st_cmp (OpR.or op_notIn_seq (OpR.or op_notIn_str (op_notInD hu))) (sf_or sf_in (sf_or sf_notInT sf_notInD)) ha hb hm
/-! ### chains, tests -/
def dChain (f g : F2) (da db dc : DE) : DE := fun env m => bindR (da env m) fun x m => bindR (db env m) fun y m => match f x y m with
  | some (.bl true, m) => bindR (dc env m) fun z m => okR (g y z m)
  | some (.bl false, m) => some (.ok (.bl false), m)
  | _ => none
theorem se_chain {op op' : CmpOp} {g : F2} {r' : R2} (ho : OpR X (compareOp op) r) (ho' : OpR X (compareOp op') r') (hf : SF2 X.K f r) (hg : SF2 X.K g r') (ha : SE X a da) (hb : SE X b db) (hc : SE X c dc)
    (hm : lastMarks [op, op'] [b, c] = false := by with_unfolding_all rfl) : SE X (.Compare a [op, op'] [b, c] pos) (dChain f g da db dc) := ⟨fun W tk =>
  impPE (pe_chain ho ho' (ha.run W tk) (hb.run W tk) (hc.run W tk) hm) fun σ H Q ⟨ρ, env, m, z, m', s, e, p⟩ =>
    bindE s e p fun x m1 ρ1 H1 v s1 E1 r1 e1 p1 => bindE s1 e1 p1 fun y m2 ρ2 H2 u s2 E2 r2 e2 p2 => by
      split at e2
      · rename_i m3 h1
        refine hf ρ2 m2 H2 x y v u _ m3 _ s2.mem (r1.mono E2) r2 h1 fun ρ' H' u' M E r => ⟨true, r, ?_⟩
        rw [if_pos rfl]
        exact bindE (s2.to E M) e2 (p2.mono E) fun z m4 ρ4 H4 v4 s4 E4 r4 e4 p4 => by
          obtain ⟨w, h5, rfl⟩ := okR_some e4
          exact hg ρ4 m4 H4 y z u v4 w m' Q s4.mem (r2.mono (E.trans E4)) r4 h5 fun ρ' H' u' M E r => p4 ρ' H' M E u' r
      · rename_i m3 h1
        cases e2
        refine hf ρ2 m2 H2 x y v u _ _ _ s2.mem (r1.mono E2) r2 h1 fun ρ' H' u' M E r => ⟨false, r, ?_⟩
        rw [if_neg (by decide)]
        exact p2 ρ' H' M E _ rfl
      · cases e2⟩
/-- a value that is a bool, as a test -/
def tB' (da : DE) : DT := fun env m => bindR (da env m) fun x m => match x with
  | .bl k => some (.ok k, m)
  | _ => none
theorem st_val (h : SE X e da) (he : ∀ whole, isTrue e X.env whole = (do let v ← whole; standAt e.pos; holding [v] (truthy v)) := by intro _; rfl) : ST X e (tB' da) := ⟨fun W tk =>
  impPT (pt_val (h.run W tk) he) fun σ H Q ⟨ρ, env, m, z, m', s, e, p⟩ => bindE s e p fun x m1 ρ1 H1 v s1 E1 r1 e1 p1 => by
    split at e1
    · rename_i k
      cases e1
      exact ⟨k, r1, p1 ρ1 H1 s1.mem .refl k rfl⟩
    · cases e1⟩
def truD (m : Mem) : Vl → Option Bool
  | .non => some false
  | .bl b => some b
  | .int i => some (i != 0)
  | .str x => if x.length ≤ sizeLine then some ((x.length : Int) != 0) else none
  | .tup xs => some (!xs.isEmpty)
  | .lst xs => some (!xs.isEmpty)
  | .frl xs => some (!xs.isEmpty)
  | .obj n => (match m[n]? with
    | some (.lst xs) => some (!xs.isEmpty)
    | some (.dic xs) => some (!xs.isEmpty)
    | _ => none)
  | .dic xs => some (!xs.isEmpty)
  | _ => none
theorem RVs.emp {K : PySem.W.Frag} {ρ : Lay} {H : Hp} {xs : List Vl} {vs : List V} (r : RVs K ρ H xs vs) : vs.isEmpty = xs.isEmpty := by
  have := r.length
  cases xs <;> cases vs <;> first | rfl | simp at this
theorem RKs.emp {K : PySem.W.Frag} {ρ : Lay} {H : Hp} {xs : List (Key × Vl)} {vs : List (Key × V)} (r : RKs K ρ H xs vs) : vs.isEmpty = xs.isEmpty := by
  cases xs with
  | nil =>
    rw [show vs = [] from r]
    rfl
  | cons x xs =>
    obtain ⟨k, y⟩ := x
    obtain ⟨v, s, rfl, _⟩ := r
    rfl
theorem truD_ok {K : PySem.W.Frag} {ρ : Lay} {m : Mem} {H : Hp} {x : Vl} {v : V} {k : Bool} (M : RM K ρ m H) (a : RV K ρ H x v) (h : truD m x = some k) : TruV K v H k := by
  cases x with
  | non =>
    cases h
    rw [show v = _ from a]
    rfl
  | bl b =>
    cases h
    rw [show v = _ from a]
    rfl
  | int b =>
    cases h
    rw [show v = _ from a]
    rfl
  | str b =>
    rw [show v = _ from a]
    have h' : (if b.length ≤ sizeLine then some ((b.length : Int) != 0) else none) = some k := h
    split at h'
    · rename_i c
      cases h'
      exact ⟨c, rfl⟩
    · cases h'
  | tup b =>
    cases h
    obtain ⟨p, vs, rfl, h1, h2⟩ := a
    exact .inr (.inl ⟨vs, h1.sq, by rw [h2.emp]⟩)
  | lst b =>
    cases h
    obtain ⟨p, vs, rfl, _, h1, h2⟩ := a
    exact .inl ⟨vs, SqL.of h1, by rw [h2.emp]⟩
  | frl b =>
    cases h
    obtain ⟨p, vs, rfl, h1, h2⟩ := a
    exact .inl ⟨vs, h1.sq, by rw [h2.emp]⟩
  | dic b =>
    cases h
    obtain ⟨p, vs, rfl, _, h1, h2⟩ := a
    exact .inr (.inr ⟨vs, h1, by rw [h2.emp]⟩)
  | obj n =>
    obtain ⟨p, rfl, hp⟩ := a
    unfold truD at h
    simp only at h
    split at h
    · rename_i xs hx
      cases h
      obtain ⟨vs, h1, h2⟩ := M.at_ _ _ _ hx hp
      exact .inl ⟨vs, SqL.of h1, by rw [h2.emp]⟩
    · rename_i xs hx
      cases h
      obtain ⟨vs, h1, h2⟩ := M.at_ _ _ _ hx hp
      exact .inr (.inr ⟨vs, h1, by rw [h2.emp]⟩)
    · cases h
  | _ => cases h
def tTr (da : DE) : DT := fun env m => bindR (da env m) fun x m => match truD m x with
  | some k => some (.ok k, m)
  | none => none
theorem st_tru (h : SE X e da) (he : ∀ whole, isTrue e X.env whole = (do let v ← whole; standAt e.pos; holding [v] (truthy v)) := by intro _; rfl) : ST X e (tTr da) := ⟨fun W tk =>
  impPT (pt_truth (h.run W tk) he) fun σ H Q ⟨ρ, env, m, z, m', s, e, p⟩ => bindE s e p fun x m1 ρ1 H1 v s1 E1 r1 e1 p1 => by
    split at e1
    · rename_i k hk
      cases e1
      exact ⟨k, truD_ok s1.mem r1 hk, p1 ρ1 H1 s1.mem .refl k rfl⟩
    · cases e1⟩
def tAnd2 (t u : DT) : DT := fun env m => bindR (t env m) fun b m => if b = true then u env m else some (.ok false, m)
def tOr2 (t u : DT) : DT := fun env m => bindR (t env m) fun b m => if b = true then some (.ok true, m) else u env m
def tNot1 (t : DT) : DT := fun env m => bindR (t env m) fun b m => some (.ok (!b), m)
theorem st_w {t : DT} (h : SW X e t) : ST X e t := ⟨fun W tk => PW.pt (h.run W tk)⟩
theorem sw_and1 (ha : ST X a dt) : SW X (.BoolOp .And [a] pos) dt := ⟨fun W tk => pw_and1 (ha.run W tk)⟩
theorem sw_or1 (ha : ST X a dt) : SW X (.BoolOp .Or [a] pos) dt := ⟨fun W tk => pw_or1 (ha.run W tk)⟩
theorem sw_and (ha : ST X a dt) (hb : SW X (.BoolOp .And (b :: rest) pos) du) : SW X (.BoolOp .And (a :: b :: rest) pos) (tAnd2 dt du) := ⟨fun W tk =>
  impPW (pw_and (ha.run W tk) (hb.run W tk)) fun σ H Q ⟨ρ, env, m, z, m', s, e, p⟩ => bindT s e p fun k m1 ρ1 H1 s1 E1 e1 p1 => by
    cases k with
    | true => exact ⟨ρ1, env, m1, z, m', s1, e1, p1⟩
    | false =>
      cases e1
      exact p1 ρ1 H1 s1.mem .refl false rfl⟩
theorem sw_or (ha : ST X a dt) (hb : SW X (.BoolOp .Or (b :: rest) pos) du) : SW X (.BoolOp .Or (a :: b :: rest) pos) (tOr2 dt du) := ⟨fun W tk =>
  impPW (pw_or (ha.run W tk) (hb.run W tk)) fun σ H Q ⟨ρ, env, m, z, m', s, e, p⟩ => bindT s e p fun k m1 ρ1 H1 s1 E1 e1 p1 => by
    cases k with
    | false => exact ⟨ρ1, env, m1, z, m', s1, e1, p1⟩
    | true =>
      cases e1
      exact p1 ρ1 H1 s1.mem .refl true rfl⟩
theorem st_not (ha : ST X a dt) : ST X (.UnaryOp .Not a pos) (tNot1 dt) := ⟨fun W tk =>
  impPT (pt_not (ha.run W tk)) fun σ H Q ⟨ρ, env, m, z, m', s, e, p⟩ => bindT s e p fun k m1 ρ1 H1 s1 E1 e1 p1 => by
    cases e1
    exact p1 ρ1 H1 s1.mem .refl _ rfl⟩
/-! and, or, not as values, by truth -/
def dAndV (da db : DE) : DE := fun env m => bindR (da env m) fun x m => match truD m x with
  | some true => db env m
  | some false => some (.ok x, m)
  | none => none
def dOrV (da db : DE) : DE := fun env m => bindR (da env m) fun x m => match truD m x with
  | some true => some (.ok x, m)
  | some false => db env m
  | none => none
theorem se_one {op : BoolOp} (h : SE X a da) : SE X (.BoolOp op [a] pos) da := ⟨fun W tk => pe_one (h.run W tk)⟩
theorem se_and (ha : SE X a da) (hb : SE X (.BoolOp .And (b :: rest) pos) db) : SE X (.BoolOp .And (a :: b :: rest) pos) (dAndV da db) := ⟨fun W tk =>
  impPE (pe_andT (ha.run W tk) (hb.run W tk)) fun σ H Q ⟨ρ, env, m, z, m', s, e, p⟩ => bindE s e p fun x m1 ρ1 H1 v s1 E1 r1 e1 p1 => by
    split at e1
    · rename_i hk
      refine ⟨true, truD_ok s1.mem r1 hk, ?_⟩
      rw [if_pos rfl]
      exact ⟨ρ1, env, m1, z, m', s1, e1, p1⟩
    · rename_i hk
      cases e1
      refine ⟨false, truD_ok s1.mem r1 hk, ?_⟩
      rw [if_neg (by decide)]
      exact p1 ρ1 H1 s1.mem .refl v r1
    · cases e1⟩
theorem se_or (ha : SE X a da) (hb : SE X (.BoolOp .Or (b :: rest) pos) db) : SE X (.BoolOp .Or (a :: b :: rest) pos) (dOrV da db) := ⟨fun W tk =>
  impPE (pe_orT (ha.run W tk) (hb.run W tk)) fun σ H Q ⟨ρ, env, m, z, m', s, e, p⟩ => bindE s e p fun x m1 ρ1 H1 v s1 E1 r1 e1 p1 => by
    split at e1
    · rename_i hk
      cases e1
      refine ⟨true, truD_ok s1.mem r1 hk, ?_⟩
      rw [if_pos rfl]
      exact p1 ρ1 H1 s1.mem .refl v r1
    · rename_i hk
      refine ⟨false, truD_ok s1.mem r1 hk, ?_⟩
      rw [if_neg (by decide)]
      exact ⟨ρ1, env, m1, z, m', s1, e1, p1⟩
    · cases e1⟩
def dNotV (da : DE) : DE := fun env m => bindR (da env m) fun x m => match truD m x with
  | some k => some (.ok (.bl (!k)), m)
  | none => none
theorem se_not (ha : SE X a da) : SE X (.UnaryOp .Not a pos) (dNotV da) := ⟨fun W tk =>
  impPE (pe_notT (ha.run W tk)) fun σ H Q ⟨ρ, env, m, z, m', s, e, p⟩ => bindE s e p fun x m1 ρ1 H1 v s1 E1 r1 e1 p1 => by
    split at e1
    · rename_i k hk
      cases e1
      exact ⟨k, truD_ok s1.mem r1 hk, p1 ρ1 H1 s1.mem .refl _ rfl⟩
    · cases e1⟩
def dIf (t : DT) (da db : DE) : DE := fun env m => bindR (t env m) fun b m => if b = true then da env m else db env m
theorem se_if {t : Expr} (hc : ST X t dt) (ha : SE X a da) (hb : SE X b db) : SE X (.IfExp t a b pos) (dIf dt da db) := ⟨fun W tk =>
  impPE (pe_ifExp (hc.run W tk) (ha.run W tk) (hb.run W tk)) fun σ H Q ⟨ρ, env, m, z, m', s, e, p⟩ => bindT s e p fun k m1 ρ1 H1 s1 E1 e1 p1 => by
    cases k with
    | true => exact ⟨ρ1, env, m1, z, m', s1, e1, p1⟩
    | false => exact ⟨ρ1, env, m1, z, m', s1, e1, p1⟩⟩
/-! ### subscripts, slices -/
def ixT : F2 := fun x y m => match seqD m x, y with
  | some xs, .int i => (match atI xs i with
    | some v => some (v, m)
    | none => none)
  | _, _ => none
theorem RVs.atI {K : PySem.W.Frag} {ρ : Lay} {H : Hp} {xs : List Vl} {vs : List V} {i : Int} {x : Vl} (r : RVs K ρ H xs vs) (h : L2.atI xs i = some x) : ∃ v, L2.atI vs i = some v ∧ RV K ρ H x v := by
  unfold L2.atI at h ⊢
  rw [← r.length]
  cases q : ixN xs.length i with
  | none =>
    rw [q] at h
    cases h
  | some j =>
    rw [q] at h
    exact r.get h
def rIxZ (K : PySem.W.Frag) : R2 := fun x y H Q => rIxL K x y H Q ∨ rIxT K x y H Q
theorem sf_ix {K : PySem.W.Frag} : SF2 K ixT (rIxZ K) := fun ρ m H x y v u z m' Q M a b e k => by
  unfold ixT at e
  split at e
  · rename_i xs i hx
    split at e
    · rename_i w hw
      cases e
      obtain ⟨p, vs, rfl, h1, h2⟩ := seqD_ok M a hx
      obtain ⟨w', h3, h4⟩ := h2.atI hw
      rcases h1 with h1 | h1
      · exact .inl ⟨p, vs, i, w', rfl, b, h1, h3, k ρ H _ M .refl h4⟩
      · exact .inr ⟨p, vs, i, w', rfl, b, h1, h3, k ρ H _ M .refl h4⟩
    · cases e
  · cases e
def ixS : F2 := fun x y m => match x, y with
  | .str z, .int i => if z.length ≤ sizeLine then (match atI z.cps.toList i with
    | some c => some (.str ⟨#[c]⟩, m)
    | none => none) else none
  | _, _ => none
theorem sf_ixS {K : PySem.W.Frag} : SF2 K ixS rIxS := fun ρ m H x y v u z m' Q M a b e k => by
  unfold ixS at e
  split at e
  · rename_i t i
    split at e
    · rename_i hl
      split at e
      · rename_i c hc
        cases e
        exact ⟨t, i, c, a, b, hl, hc, k ρ H _ M .refl rfl⟩
      · cases e
    · cases e
  · cases e
def ixA : F2 := orF ixT ixS
theorem se_ix (ha : SE X a da) (hb : SE X b db) (hs : PlainIx b := by intro _ _; rfl) : SE X (.Subscript a b pos) (d2 ixA da db) := ⟨fun W tk =>
  impPE (pe_ix (IxR.or (IxR.or ix_list ix_tup) ix_str) (ha.run W tk) (hb.run W tk) hs) fun σ H Q ⟨ρ, env, m, z, m', s, e, p⟩ =>
    bindE s e p fun x m1 ρ1 H1 v s1 E1 r1 e1 p1 => bindE s1 e1 p1 fun y m2 ρ2 H2 u s2 E2 r2 e2 p2 => by
      obtain ⟨w, h1, rfl⟩ := okR_some e2
      exact sf_or sf_ix sf_ixS ρ2 m2 H2 x y v u w m' Q s2.mem (r1.mono E2) r2 h1 fun ρ' H' u' M E r => p2 ρ' H' M E u' r⟩
/-- a slice's end -/
abbrev DO := Ev → Mem → Option (R (Option Int) × Mem)
def rdO (K : PySem.W.Frag) (W : WX) (d : DO) : TO := fun σ H Q => ∃ ρ env m r m', S K ρ env m σ H ∧ d env m = some (r, m') ∧ Po K ρ H (fun _ _ (b c : Option Int) => b = c) (fun c dd H' => W c dd σ H') Q r m'
structure SO (X : Cx) (e : Option Expr) (d : DO) : Prop where
  run : ∀ W, Takes X W → PO X e (rdO X.K W d)
theorem impPO {e : Option Expr} {t t' : TO} (h : PO X e t) (q : ∀ σ H Q, t' σ H Q → t σ H Q) : PO X e t' := ⟨fun pins s σ H Q I x => h.run pins s σ H Q I (q σ H Q x)⟩
theorem so_none : SO X none (fun _ m => some (.ok none, m)) := ⟨fun W tk => impPO po_none fun σ H Q ⟨ρ, env, m, z, m', s, e, p⟩ => by
  cases e
  exact p ρ H s.mem .refl none rfl⟩
def dPart (da : DE) : DO := fun env m => bindR (da env m) fun x m => match x with
  | .int i => some (.ok (some i), m)
  | _ => none
theorem so_some (ha : SE X a da) : SO X (some a) (dPart da) := ⟨fun W tk => impPO (po_some (ha.run W tk)) fun σ H Q ⟨ρ, env, m, z, m', s, e, p⟩ => bindE s e p fun x m1 ρ1 H1 v s1 E1 r1 e1 p1 => by
  split at e1
  · rename_i i
    cases e1
    exact ⟨i, r1, p1 ρ1 H1 s1.mem .refl (some i) rfl⟩
  · cases e1⟩
theorem bindO {β γ : Type} {K : PySem.W.Frag} {W : WX} {ρ : Lay} {env : Ev} {m m' : Mem} {σ : L2.St} {H : Hp} {d : DO} {f : Option Int → Mem → Option (R β × Mem)} {z : R β} {Q : Option Int → Hp → Prop} {Rel : Lay → Hp → β → γ → Prop} {Qf : γ → Hp → Prop}
    (s : S K ρ env m σ H) (e : bindR (d env m) f = some (z, m')) (p : Po K ρ H Rel (fun c dd H' => W c dd σ H') Qf z m')
    (k : ∀ x m1 ρ' H', S K ρ' env m1 σ H' → Ext ρ H ρ' H' → f x m1 = some (z, m') → Po K ρ' H' Rel (fun c dd H' => W c dd σ H') Qf z m' → Q x H') : rdO K W d σ H Q := by
  unfold bindR at e
  split at e
  · cases e
  · rename_i x m1 h
    refine ⟨ρ, env, m, _, _, s, h, fun ρ' H' M E v r => ?_⟩
    cases r
    exact k x m1 ρ' H' (s.to E M) E e (p.mono E)
  · rename_i c fs m1 h
    cases e
    exact ⟨ρ, env, m, _, _, s, h, fun ρ' H' M E dd r => p ρ' H' M E dd r⟩
def cutZ (xs : List Vl) (lo hi : Option Int) : List Vl := (xs.drop (HT.sIx xs.length 0 lo)).take (HT.sIx xs.length xs.length hi - HT.sIx xs.length 0 lo)
theorem RVs.drop {K : PySem.W.Frag} {ρ : Lay} {H : Hp} : ∀ {xs : List Vl} {vs : List V} (n : Nat), RVs K ρ H xs vs → RVs K ρ H (xs.drop n) (vs.drop n)
  | _, _, 0, h => h
  | [], _, n + 1, h => by
    rw [show _ = [] from h]
    rfl
  | _ :: xs, _, n + 1, ⟨v, r, h1, _, h3⟩ => by
    subst h1
    exact RVs.drop n h3
theorem RVs.take {K : PySem.W.Frag} {ρ : Lay} {H : Hp} : ∀ {xs : List Vl} {vs : List V} (n : Nat), RVs K ρ H xs vs → RVs K ρ H (xs.take n) (vs.take n)
  | _, _, 0, _ => rfl
  | [], _, n + 1, h => by
    rw [show _ = [] from h]
    rfl
  | _ :: xs, _, n + 1, ⟨v, r, h1, h2, h3⟩ => by
    subst h1
    exact ⟨v, _, rfl, h2, RVs.take n h3⟩
theorem RVs.cut {K : PySem.W.Frag} {ρ : Lay} {H : Hp} {xs : List Vl} {vs : List V} {lo hi : Option Int} (h : RVs K ρ H xs vs) : RVs K ρ H (cutZ xs lo hi) (cutV vs lo hi) := by
  unfold cutZ cutV
  rw [h.length]
  exact (h.drop _).take _
def slD (x : Vl) (lo hi : Option Int) (m : Mem) : Option (Vl × Mem) := match x with
  | .tup xs => if (decide (HT.sIx xs.length 0 lo = 0) && decide (HT.sIx xs.length xs.length hi = xs.length)) = true then none else some (.tup (cutZ xs lo hi), m)
  | .str z => if z.length ≤ sizeLine then some (.str (cutS z lo hi), m) else none
  | x => (match lisD m x with
    | some xs => some (.lst (cutZ xs lo hi), m)
    | none => none)
theorem sl_ok {K : PySem.W.Frag} {ρ : Lay} {m : Mem} {H : Hp} {x : Vl} {v : V} {lo hi : Option Int} {z : Vl} {m' : Mem} {Q : VK} (M : RM K ρ m H) (a : RV K ρ H x v) (e : slD x lo hi m = some (z, m'))
    (k : ∀ ρ' H' w, RM K ρ' m' H' → Ext ρ H ρ' H' → RV K ρ' H' z w → Q w H') : rSlL K v lo hi H Q ∨ rSlT K v lo hi H Q ∨ rSlS v lo hi H Q := by
  unfold slD at e
  split at e
  · rename_i xs
    split at e
    · cases e
    · rename_i c
      cases e
      obtain ⟨p, vs, rfl, h1, h2⟩ := a
      refine .inr (.inl ⟨p, vs, rfl, h1.sq, ?_, fun n hn => k ρ _ _ (M.laid hn) (ext_new hn) (new_tup M hn h2.cut)⟩)
      rw [← h2.length]
      simp only [Bool.and_eq_true, decide_eq_true_eq] at c
      exact c
  · rename_i t
    split at e
    · rename_i c
      cases e
      exact .inr (.inr ⟨t, a, c, k ρ H _ M .refl rfl⟩)
    · cases e
  · split at e
    · rename_i xs hx
      cases e
      obtain ⟨p, vs, rfl, h1, h2⟩ := lisD_ok M a hx
      exact .inl ⟨p, vs, rfl, h1, fun n hn => k _ _ _ (rm_frz M hn) (ext_frz M hn) (new_lst M hn h2.cut)⟩
    · cases e
def dSl (da : DE) (lo hi : DO) : DE := fun env m => bindR (da env m) fun x m => bindR (lo env m) fun l m => bindR (hi env m) fun h m => okR (slD x l h m)
theorem se_slice {lo hi : Option Expr} {p2 : Pos} {dl dh : DO} (ha : SE X a da) (hl : SO X lo dl) (hh : SO X hi dh) : SE X (.Subscript a (.Slice lo hi none p2) pos) (dSl da dl dh) := ⟨fun W tk =>
  impPE (pe_slice (SlR.or sl_list (SlR.or sl_tup sl_str)) (ha.run W tk) (hl.run W tk) (hh.run W tk)) fun σ H Q ⟨ρ, env, m, z, m', s, e, p⟩ =>
    bindE s e p fun x m1 ρ1 H1 v s1 E1 r1 e1 p1 => bindO s1 e1 p1 fun l m2 ρ2 H2 s2 E2 e2 p2 => bindO s2 e2 p2 fun h m3 ρ3 H3 s3 E3 e3 p3 => by
      obtain ⟨w, h1, rfl⟩ := okR_some e3
      exact sl_ok s3.mem (r1.mono (E2.trans E3)) h1 fun ρ' H' u' M E r => p3 ρ' H' M E u' r⟩
end
end Z
namespace Z
open PySem PySem.Spec PyProof.Rows L2
/-! ### values that lean on the first k cells alone -/
mutual
def clo (k : Nat) : Vl → Bool
  | .tup xs => cloL k xs
  | .lst xs => cloL k xs
  | .frl xs => cloL k xs
  | .dic kvs => cloK k kvs
  | .dit kvs => cloT k kvs
  | .ins _ fs => cloF k fs
  | .obj n => decide (n < k)
  | .non => true
  | .bl _ => true
  | .int _ => true
  | .str _ => true
  | .ty _ => true
  | .glo _ => true
  | .err _ fs => cloF k fs
def cloL (k : Nat) : List Vl → Bool
  | [] => true
  | x :: xs => clo k x && cloL k xs
def cloK (k : Nat) : List (Key × Vl) → Bool
  | [] => true
  | (_, x) :: xs => clo k x && cloK k xs
def cloT (k : Nat) : List (List Key × Vl) → Bool
  | [] => true
  | (_, x) :: xs => clo k x && cloT k xs
def cloF (k : Nat) : List (Str × Vl) → Bool
  | [] => true
  | (_, x) :: xs => clo k x && cloF k xs
end
theorem and2 {a b : Bool} (h : (a && b) = true) : a = true ∧ b = true := Bool.and_eq_true_iff.mp h
section
variable {K : PySem.W.Frag} {ρ ρ1 : Lay} {H H1 : Hp}
mutual
theorem RV.clo {k : Nat} (hk : ρ.c.length ≤ k) : ∀ (x : Vl) {v : V}, RV K ρ H x v → clo k x = true
  | .non, _, _ => rfl
  | .bl _, _, _ => rfl
  | .int _, _, _ => rfl
  | .str _, _, _ => rfl
  | .ty _, _, _ => rfl
  | .glo _, _, _ => rfl
  | .tup xs, _, ⟨_, _, _, _, h⟩ => RVs.clo hk xs h
  | .lst xs, _, ⟨_, _, _, _, _, h⟩ => RVs.clo hk xs h
  | .frl xs, _, ⟨_, _, _, _, h⟩ => RVs.clo hk xs h
  | .dic xs, _, ⟨_, _, _, _, _, h⟩ => RKs.clo hk xs h
  | .dit xs, _, ⟨_, _, _, _, _, h⟩ => RTs.clo hk xs h
  | .ins c fs, _, ⟨_, _, _, _, _, _, h⟩ => RFs.clo hk fs h
  | .obj n, _, ⟨a, _, h2⟩ => decide_eq_true (Nat.lt_of_lt_of_le (List.getElem?_eq_some_iff.mp h2).1 hk)
  | .err _ fs, _, ⟨_, _, _, _, _, _, _, h⟩ => RFs.clo hk fs h
theorem RVs.clo {k : Nat} (hk : ρ.c.length ≤ k) : ∀ (xs : List Vl) {vs : List V}, RVs K ρ H xs vs → cloL k xs = true
  | [], _, _ => rfl
  | x :: xs, _, ⟨_, _, _, h2, h3⟩ => Bool.and_eq_true_iff.mpr ⟨RV.clo hk x h2, RVs.clo hk xs h3⟩
theorem RKs.clo {k : Nat} (hk : ρ.c.length ≤ k) : ∀ (xs : List (Key × Vl)) {vs : List (Key × V)}, RKs K ρ H xs vs → cloK k xs = true
  | [], _, _ => rfl
  | (_, x) :: xs, _, ⟨_, _, _, h2, h3⟩ => Bool.and_eq_true_iff.mpr ⟨RV.clo hk x h2, RKs.clo hk xs h3⟩
theorem RTs.clo {k : Nat} (hk : ρ.c.length ≤ k) : ∀ (xs : List (List Key × Vl)) {vs : List (List Key × V)}, RTs K ρ H xs vs → cloT k xs = true
  | [], _, _ => rfl
  | (_, x) :: xs, _, ⟨_, _, _, h2, h3⟩ => Bool.and_eq_true_iff.mpr ⟨RV.clo hk x h2, RTs.clo hk xs h3⟩
theorem RFs.clo {k : Nat} (hk : ρ.c.length ≤ k) : ∀ (xs : List (Str × Vl)) {vs : List (Str × V)}, RFs K ρ H xs vs → cloF k xs = true
  | [], _, _ => rfl
  | (_, x) :: xs, _, ⟨_, _, _, h2, h3⟩ => Bool.and_eq_true_iff.mpr ⟨RV.clo hk x h2, RFs.clo hk xs h3⟩
end
/-- the layout of the first k cells; the others are values from now on -/
def Lay.cut (ρ : Lay) (k : Nat) : Lay := ⟨ρ.c.take k, ρ.z ++ ρ.c.drop k⟩
theorem cut_out {k : Nat} {a : Addr} (n : a ∉ ρ.c) : a ∉ (ρ.cut k).c := fun q => n (List.mem_of_mem_take q)
theorem cut_z {k : Nat} {a : Addr} (n : a ∈ ρ.z ∧ a ∉ ρ.c) : a ∈ (ρ.cut k).z ∧ a ∉ (ρ.cut k).c := ⟨List.mem_append_left _ n.1, cut_out n.2⟩
mutual
theorem RV.cut {k : Nat} : ∀ (x : Vl) {v : V}, RV K ρ H x v → Z.clo k x = true → RV K (ρ.cut k) H x v
  | .non, _, h, _ => h
  | .bl _, _, h, _ => h
  | .int _, _, h, _ => h
  | .str _, _, h, _ => h
  | .ty _, _, h, _ => h
  | .glo _, _, h, _ => h
  | .tup xs, _, ⟨a, vs, h1, h2, h3⟩, c => ⟨a, vs, h1, h2.elim (fun h => .inl ⟨cut_out h.1, h.2⟩) .inr, RVs.cut' xs h3 c⟩
  | .lst xs, _, ⟨a, vs, h1, n, h2, h3⟩, c => ⟨a, vs, h1, cut_z n, h2, RVs.cut' xs h3 c⟩
  | .frl xs, _, ⟨a, vs, h1, h2, h3⟩, c => ⟨a, vs, h1, h2.elim (fun h => .inl ⟨cut_out h.1, h.2⟩) .inr, RVs.cut' xs h3 c⟩
  | .dic xs, _, ⟨a, vs, h1, n, h2, h3⟩, c => ⟨a, vs, h1, cut_z n, h2, RKs.cut xs h3 c⟩
  | .dit xs, _, ⟨a, vs, h1, n, h2, h3⟩, c => ⟨a, vs, h1, cut_z n, h2, RTs.cut xs h3 c⟩
  | .ins _ fs, _, ⟨a, dx, gs, h1, n, h2, h3⟩, c => ⟨a, dx, gs, h1, cut_z n, h2, RFs.cut fs h3 c⟩
  | .obj n, _, ⟨a, h1, h2⟩, c => ⟨a, h1, by
      show (ρ.c.take k)[n]? = some a
      rw [List.getElem?_take_of_lt (of_decide_eq_true c)]
      exact h2⟩
  | .err _ fs, _, ⟨a, d, gs, h1, n, h2, h3, h4⟩, c => ⟨a, d, gs, h1, cut_out n, h2, h3.elim (fun ⟨dd, q1, q2, q3⟩ => .inl ⟨dd, q1, cut_out q2, q3⟩) .inr, RFs.cut fs h4 c⟩
theorem RVs.cut' {k : Nat} : ∀ (xs : List Vl) {vs : List V}, RVs K ρ H xs vs → cloL k xs = true → RVs K (ρ.cut k) H xs vs
  | [], _, h, _ => h
  | x :: xs, _, ⟨v, r, h1, h2, h3⟩, c => ⟨v, r, h1, RV.cut x h2 (and2 c).1, RVs.cut' xs h3 (and2 c).2⟩
theorem RKs.cut {k : Nat} : ∀ (xs : List (Key × Vl)) {vs : List (Key × V)}, RKs K ρ H xs vs → cloK k xs = true → RKs K (ρ.cut k) H xs vs
  | [], _, h, _ => h
  | (_, x) :: xs, _, ⟨v, r, h1, h2, h3⟩, c => ⟨v, r, h1, RV.cut x h2 (and2 c).1, RKs.cut xs h3 (and2 c).2⟩
theorem RTs.cut {k : Nat} : ∀ (xs : List (List Key × Vl)) {vs : List (List Key × V)}, RTs K ρ H xs vs → cloT k xs = true → RTs K (ρ.cut k) H xs vs
  | [], _, h, _ => h
  | (_, x) :: xs, _, ⟨v, r, h1, h2, h3⟩, c => ⟨v, r, h1, RV.cut x h2 (and2 c).1, RTs.cut xs h3 (and2 c).2⟩
theorem RFs.cut {k : Nat} : ∀ (xs : List (Str × Vl)) {vs : List (Str × V)}, RFs K ρ H xs vs → cloF k xs = true → RFs K (ρ.cut k) H xs vs
  | [], _, h, _ => h
  | (_, x) :: xs, _, ⟨v, r, h1, h2, h3⟩, c => ⟨v, r, h1, RV.cut x h2 (and2 c).1, RFs.cut xs h3 (and2 c).2⟩
end
def cloC (k : Nat) : Cell → Bool
  | .lst xs => cloL k xs
  | .dic xs => cloK k xs
  | .dit xs => cloT k xs
  | .ins _ fs => cloF k fs
theorem RC.clo {k : Nat} {a : Addr} (hk : ρ.c.length ≤ k) : ∀ {c : Cell}, RC K ρ H a c → cloC k c = true
  | .lst xs, ⟨_, _, h⟩ => RVs.clo hk xs h
  | .dic xs, ⟨_, _, h⟩ => RKs.clo hk xs h
  | .dit xs, ⟨_, _, h⟩ => RTs.clo hk xs h
  | .ins _ xs, ⟨_, _, _, h⟩ => RFs.clo hk xs h
theorem RC.cut {k : Nat} {a : Addr} : ∀ {c : Cell}, RC K ρ H a c → cloC k c = true → RC K (ρ.cut k) H a c
  | .lst xs, ⟨vs, h1, h⟩, c => ⟨vs, h1, RVs.cut' xs h c⟩
  | .dic xs, ⟨vs, h1, h⟩, c => ⟨vs, h1, RKs.cut xs h c⟩
  | .dit xs, ⟨vs, h1, h⟩, c => ⟨vs, h1, RTs.cut xs h c⟩
  | .ins _ xs, ⟨dx, vs, h1, h⟩, c => ⟨dx, vs, h1, RFs.cut xs h c⟩
/-- the memory m1 without what lies behind the first cells -/
theorem RM.cut {m' ex : Mem} (M : RM K ρ (m' ++ ex) H) (hc : ∀ (n : Nat) (c : Cell), m'[n]? = Option.some c → cloC m'.length c = true) : RM K (ρ.cut m'.length) m' H := by
  refine ⟨M.nd.sublist (List.take_sublist _ _), ?_, fun n c a h1 h2 => ?_, fun a ha => ?_⟩
  · show (ρ.c.take m'.length).length = m'.length
    rw [List.length_take, M.len, List.length_append]
    omega
  · have hn : n < m'.length := (List.getElem?_eq_some_iff.mp h1).1
    have h2' : (ρ.c.take m'.length)[n]? = Option.some a := h2
    rw [List.getElem?_take_of_lt hn] at h2'
    exact (M.at_ n c a (by rw [List.getElem?_append_left hn]; exact h1) h2').cut (hc n c h1)
  · rcases List.mem_append.mp ha with q | q
    · obtain ⟨h1, h2⟩ := M.zt a q
      exact ⟨cut_out h1, h2⟩
    · refine ⟨fun z => ?_, M.some (List.mem_of_mem_drop q)⟩
      have nd := M.nd
      rw [← List.take_append_drop m'.length ρ.c, List.nodup_append] at nd
      exact nd.2.2 a z a q rfl
theorem Ext.cut {m m' ex : Mem} (E : Ext ρ H ρ1 H1) (M : RM K ρ m H) (M1 : RM K ρ1 (m' ++ ex) H1) (hl : m'.length = m.length) : Ext ρ H (ρ1.cut m'.length) H1 := by
  obtain ⟨t, ht⟩ := E.pre
  have hc : ρ1.c.take m'.length = ρ.c := by rw [← ht, hl, ← M.len]; simp
  refine ⟨by show ρ.c <+: ρ1.c.take m'.length; rw [hc]; exact List.prefix_refl _, fun a h => List.mem_append_left _ (E.zin a h), E.keep, E.stay, fun a h => ?_, fun a h => ?_⟩
  · have h' : a ∈ ρ1.c.take m'.length := h
    rw [hc] at h'
    exact .inl h'
  · rcases List.mem_append.mp h with q | q
    · exact E.oldz a q
    · have hn : a ∉ ρ.c := fun z => by
        have nd := M1.nd
        rw [← List.take_append_drop m'.length ρ1.c, List.nodup_append] at nd
        exact nd.2.2 a (by rw [hc]; exact z) a q rfl
      rcases E.oldc a (List.mem_of_mem_drop q) with z | z
      · exact absurd z hn
      · exact .inr z
end
/-- what a result may be told as, behind the first k cells' end: the new cells are values, or forgotten -/
inductive PkV (k : Nat) (ex : Mem) : Vl → Vl → Prop
  | same {x : Vl} (h : clo k x = true) : PkV k ex x x
  | lst {n : Nat} {xs : List Vl} (h : ex[n]? = some (.lst xs)) (c : cloL k xs = true) : PkV k ex (.obj (k + n)) (.lst xs)
  | dic {n : Nat} {xs : List (Key × Vl)} (h : ex[n]? = some (.dic xs)) (c : cloK k xs = true) : PkV k ex (.obj (k + n)) (.dic xs)
  | dit {n : Nat} {xs : List (List Key × Vl)} (h : ex[n]? = some (.dit xs)) (c : cloT k xs = true) : PkV k ex (.obj (k + n)) (.dit xs)
  | ins {n : Nat} {cl : Str} {xs : List (Str × Vl)} (h : ex[n]? = some (.ins cl xs)) (c : cloF k xs = true) : PkV k ex (.obj (k + n)) (.ins cl xs)
theorem PkV.ok {K : PySem.W.Frag} {ρ : Lay} {H : Hp} {m' ex : Mem} {x y : Vl} {v : V} (p : PkV m'.length ex x y) (M : RM K ρ (m' ++ ex) H) (r : RV K ρ H x v) : RV K (ρ.cut m'.length) H y v := by
  have key : ∀ {n : Nat} {c : Cell}, ex[n]? = some c → ∀ {v : V}, RV K ρ H (.obj (m'.length + n)) v → ∃ a, v = .ref a ∧ RC K ρ H a c ∧ a ∈ (ρ.cut m'.length).z ∧ a ∉ (ρ.cut m'.length).c := by
    intro n c h v r
    obtain ⟨a, rfl, h2⟩ := r
    have hd : a ∈ ρ.c.drop m'.length := List.mem_of_getElem? (i := n) (by rw [List.getElem?_drop]; exact h2)
    refine ⟨a, rfl, M.at_ _ c a (by rw [List.getElem?_append_right (by omega)]; simpa using h) h2, List.mem_append_right _ hd, fun z => ?_⟩
    have nd := M.nd
    rw [← List.take_append_drop m'.length ρ.c, List.nodup_append] at nd
    exact nd.2.2 a z a hd rfl
  cases p with
  | same h => exact r.cut x h
  | lst h c =>
    obtain ⟨a, rfl, ⟨vs, h1, h2⟩, n⟩ := key h r
    exact ⟨a, vs, rfl, n, h1, RVs.cut' _ h2 c⟩
  | dic h c =>
    obtain ⟨a, rfl, ⟨vs, h1, h2⟩, n⟩ := key h r
    exact ⟨a, vs, rfl, n, h1, RKs.cut _ h2 c⟩
  | dit h c =>
    obtain ⟨a, rfl, ⟨vs, h1, h2⟩, n⟩ := key h r
    exact ⟨a, vs, rfl, n, h1, RTs.cut _ h2 c⟩
  | ins h c =>
    obtain ⟨a, rfl, ⟨dx, vs, h1, h2⟩, n⟩ := key h r
    exact ⟨a, dx, vs, rfl, n, h1, RFs.cut _ h2 c⟩
def PkR (k : Nat) (ex : Mem) : R Vl → R Vl → Prop
  | .ok x, .ok y => PkV k ex x y
  | .ex c fs, .ex c' fs' => c = c' ∧ fs = fs' ∧ cloF k fs = true
  | _, _ => False
/-- .. of a memory m: m1 behind it, told as m' -/
structure Pk (m : Mem) (r : R Vl) (m1 : Mem) (r' : R Vl) (m' : Mem) : Prop where
  ex : ∃ ex, m1 = m' ++ ex ∧ PkR m'.length ex r r'
  len : m'.length = m.length
  old : ∀ (n : Nat) (c : Cell), m'[n]? = some c → m[n]? = some c ∨ cloC m'.length c = true
theorem Pk.po {K : PySem.W.Frag} {ρ : Lay} {m m1 m' : Mem} {H : Hp} {r r' : R Vl} {W : Value → Option Addr → Hp → Prop} {Q : VK} (p : Pk m r m1 r' m') (M : RM K ρ m H) (h : Po K ρ H (RV K) W Q r' m') : Po K ρ H (RV K) W Q r m1 := fun ρ1 H1 M1 E => by
  obtain ⟨⟨ex, rfl, q⟩, hl, old⟩ := p
  have hc : ∀ (n : Nat) (c : Cell), m'[n]? = some c → cloC m'.length c = true := fun n c hn => by
    rcases old n c hn with z | z
    · obtain ⟨a, ha⟩ := M.adr z
      exact (M.at_ n c a z ha).clo (by rw [M.len, hl]; exact Nat.le_refl _)
    · exact z
  have M2 := M1.cut hc
  have E2 := E.cut M M1 hl
  have h2 := h _ H1 M2 E2
  cases r with
  | ok x =>
    cases r' with
    | ok y => exact fun v rv => h2 v (q.ok M1 rv)
    | ex c fs => exact q.elim
  | ex c fs =>
    cases r' with
    | ok y => exact q.elim
    | ex c' fs' =>
      obtain ⟨rfl, rfl, qc⟩ := q
      refine fun dd x => h2 dd ?_
      cases dd with
      | none => exact x
      | some d =>
        obtain ⟨gs, x1, x2, x3⟩ := x
        exact ⟨gs, x1, cut_out x2, RFs.cut _ x3 qc⟩
theorem Pk.pure {m ex : Mem} {x y : Vl} (h : PkV m.length ex x y) : Pk m (.ok x) (m ++ ex) (.ok y) m := ⟨⟨ex, rfl, h⟩, rfl, fun n c e => .inl e⟩
theorem Pk.here {m : Mem} {r : R Vl} (h : match r with | .ok x => clo m.length x = true | .ex _ fs => cloF m.length fs = true) : Pk m r m r m := ⟨⟨[], by simp, by
  cases r with
  | ok x => exact .same h
  | ex c fs => exact ⟨rfl, rfl, h⟩⟩, rfl, fun n c e => .inl e⟩
/-- an expression told otherwise -/
theorem SE.pack {X : Cx} {e : Expr} {d d' : DE} (h : SE X e d) (q : ∀ env m r' m', d' env m = some (r', m') → ∃ r m1, d env m = some (r, m1) ∧ Pk m r m1 r' m') : SE X e d' := ⟨fun W tk => impPE (h.run W tk) fun σ H Q ⟨ρ, env, m, z, m', s, e, p⟩ => by
  obtain ⟨r, m1, h1, pk⟩ := q env m z m' e
  exact ⟨ρ, env, m, r, m1, s, h1, pk.po s.mem p⟩⟩
/-! ### defs -/
abbrev FD := List Vl → Mem → Option (R Vl × Mem)
/-! ### what a def promises, where no guard is under way -/
structure Room (k : Nat) (A : Around) : Prop extends L2.Room k A where
  gd : A.guards = some []
theorem make_guards {A : Around} {C : Addr} {us : List Value} {kw : List (Str × Value)} (h : A.guards = some []) : (A.under (.builtin "type.__call__" ⟨.ref C :: us, kw⟩)).guards = some [] := by
  show pushGuards (Code.builtin "type.__call__" ⟨.ref C :: us, kw⟩).guards A.guards = some []
  rw [h]
  rfl
theorem Room.mono {j k : Nat} {A : Around} (r : Room k A) (h : j ≤ k) : Room j A := ⟨r.toRoom.mono h, r.gd⟩
theorem Room.deeper {k : Nat} {A : Around} (r : Room (k + 1) A) (env : Env) : Room k (A.deeper env) := ⟨r.toRoom.deeper env, r.gd⟩
theorem Room.in1 {k : Nat} {A : Around} (r : Room (k + 1) A) : Room k A.in1 := ⟨r.toRoom.in1, r.gd⟩
theorem Room.make {k : Nat} {A : Around} (r : Room (k + 1) A) (C : Addr) (us : List Value) (kw : List (Str × Value)) : Room k (A.under (.builtin "type.__call__" ⟨.ref C :: us, kw⟩)) := ⟨r.toRoom.make C us kw, make_guards r.gd⟩
structure FnOk (P : Program) (w : World) (K : PySem.W.Frag) (mg : Str → Option Value) (base : Heap) (CX : CXT) (k : Nat) (f : Addr) (fd : FuncData) (ps : List Str) (sp : Sp) : Prop where
  len : ∀ vs H Q E, sp vs H Q E → vs.length = ps.length
  run : ∀ (A : Around) (outer : List Env) (s : Shared) (H : Hp) (args : Args) (us : List Value) (vs : List V) (Q : VK) (E : XK), Room k A → Env0 P w K mg base A outer s H → BindsTo s fd args (ps.zip us) → Vals vs us → sp vs H Q E →
    codeAny (model P w) A (.call (.ref f) args) (CR CX outer P w H s Q E) s
theorem FnOk.mono {P : Program} {w : World} {K : PySem.W.Frag} {mg : Str → Option Value} {base : Heap} {CX : CXT} {j k : Nat} {f : Addr} {fd : FuncData} {ps : List Str} {sp : Sp} (F : FnOk P w K mg base CX j f fd ps sp) (h : j ≤ k) : FnOk P w K mg base CX k f fd ps sp :=
  ⟨F.len, fun A outer s H args us vs Q E hr => F.run A outer s H args us vs Q E (hr.mono h)⟩
theorem FnOk.imp {P : Program} {w : World} {K : PySem.W.Frag} {mg : Str → Option Value} {base : Heap} {CX : CXT} {k : Nat} {f : Addr} {fd : FuncData} {ps : List Str} {sp sp' : Sp} (F : FnOk P w K mg base CX k f fd ps sp) (h : ∀ vs H Q E, sp' vs H Q E → sp vs H Q E) : FnOk P w K mg base CX k f fd ps sp' :=
  ⟨fun vs H Q E q => F.len vs H Q E (h _ _ _ _ q), fun A outer s H args us vs Q E hr he hb hv hs => F.run A outer s H args us vs Q E hr he hb hv (h _ _ _ _ hs)⟩
/-- a def by its body, entered where no guard is under way -/
theorem funD_ok {P : Program} {w : World} {K : PySem.W.Frag} {mg : Str → Option Value} {base : Heap} {x qual : Str} {params : Arguments} {body : List Stmt} {scope : Scope} {dvs : List V} {kws : List (Str × V)} {f : Addr} {fd : FuncData} {CX : CXT} {N ps : List Str} {k : Nat} {sp : Sp}
    (F : FunD K x qual params body scope dvs kws f fd) (S : FnScope N ps scope) (len : ∀ vs H Q E, sp vs H Q E → vs.length = ps.length)
    (hb : ∀ (cdv : Value) (A : Around) (outer : List Env) (s : Shared) (H : Hp) (vs : List V) (Q : VK) (E : XK), Room k (A.deeper (envOfC qual scope s.heap.objs.size f cdv)) → sp vs H Q E →
      ∃ t, PSs (cxOf CX P w K mg base N qual scope f cdv A outer s H E) body t ∧ t { nx := fun _ H' => Q .non H', rt := Q } (L2.start N vs) H) : FnOk P w K mg base CX (k + 1) f fd ps sp := by
  obtain ⟨oc, od, dV, kV, doc, pm, an, cdv, ct, osl, rfl, lk, hcd, _, _⟩ := F.ex
  refine ⟨len, fun A outer s H args us vs Q E room e0 bnd rel hsp => ?_⟩
  have old : s.heap.NoLimit ∧ K.In s.heap := ⟨e0.mod.nolimit.keeps fun b o e => (e0.bs b o e).1, e0.mod.kin.keeps fun b o e => (e0.bs b o e).1⟩
  have named : ∀ y ∈ ps.zip us, scope.names.lookup y.1 = some .local ∨ (scope.names.lookup y.1 = some .cell ∧ ((cellsFrom (s.heap.objs.size + 1) scope.names []).lookup y.1).isSome = true) := by
    intro y hy
    exact (S.par y.1 (List.of_mem_zip hy).1).imp id fun q => ⟨q, PySem.W.cellsFrom_some _ _ _ (.inl q)⟩
  refine codeAny_call_function room.depth (old.2 _ _ lk) rfl S.co S.gen rfl (PySem.W.codeRec_of old.2 hcd) (bnd _ _ _ _ (wpAny_newFunctionEnv_cells S.kind named ?_))
  rintro _ rfl s1 x
  obtain ⟨t, ht, hq⟩ := hb cdv A outer s H vs Q E (room.deeper _) hsp
  refine ⟨old.1.keeps x.toInCall.keep, codeAny_func (wpAny_mono (ht.run [] s1 _ H _ (inv_start S room.hd e0 (len _ _ _ _ hsp) rel x) hq) (fun fl s' hs => ?_) fun _ _ h => h)⟩
  match fl, hs with
  | .ret u, ⟨v, σ', H', J, rv, q⟩ => exact ⟨v, H', J.os, J.bare, J.base, J.hok, rv, q⟩
  | .next, ⟨σ', H', J, q⟩ => exact ⟨.non, H', J.os, J.bare, J.base, J.hok, rfl, q⟩
  | .brk, ⟨_, _, _, q⟩ => exact q.elim
  | .cont, ⟨_, _, _, q⟩ => exact q.elim
def spZ (K : PySem.W.Frag) (n : Nat) (g : FD) : Sp := fun vs H Q E => vs.length = n ∧ ∃ ρ m xs r m', RM K ρ m H ∧ RVs K ρ H xs vs ∧ g xs m = some (r, m') ∧ Po K ρ H (RV K) (fun c dd H' => E c dd H') Q r m'
theorem spZ_pack {K : PySem.W.Frag} {n : Nat} {g g' : FD} (q : ∀ xs m r' m', g' xs m = some (r', m') → ∃ r m1, g xs m = some (r, m1) ∧ Pk m r m1 r' m') (vs : List V) (H : Hp) (Q : VK) (E : XK) (h : spZ K n g' vs H Q E) : spZ K n g vs H Q E := by
  obtain ⟨hl, ρ, m, xs, r', m', M, rx, e, p⟩ := h
  obtain ⟨r, m1, h1, pk⟩ := q xs m r' m' e
  exact ⟨hl, ρ, m, xs, r, m1, M, rx, h1, pk.po M p⟩
theorem spZ_imp {K : PySem.W.Frag} {n : Nat} {g g' : FD} (q : ∀ xs m r, xs.length = n → g' xs m = some r → g xs m = some r) (vs : List V) (H : Hp) (Q : VK) (E : XK) (h : spZ K n g' vs H Q E) : spZ K n g vs H Q E := by
  obtain ⟨hl, ρ, m, xs, r', m', M, rx, e, p⟩ := h
  exact ⟨hl, ρ, m, xs, r', m', M, rx, q xs m _ (by rw [rx.length]; exact hl) e, p⟩
def startZ (n : Nat) (xs : List Vl) : Ev := xs.map some ++ List.replicate (n - xs.length) none
/-- a def by its body: n names -/
def bodyD (n : Nat) (d : DS) : FD := fun xs m => match d (startZ n xs) m with
  | some (.rt v, m') => some (.ok v, m')
  | some (.nx _, m') => some (.ok .non, m')
  | some (.ex c fs _, m') => some (.ex c fs, m')
  | _ => none
theorem re_start {K : PySem.W.Frag} {ρ : Lay} {H : Hp} {xs : List Vl} {vs : List V} {N : List Str} (r : RVs K ρ H xs vs) : RE K ρ H (startZ N.length xs) (L2.start N vs) := by
  have hl := r.length
  refine ⟨by unfold startZ L2.start; simp [hl], fun i x e => ?_⟩
  unfold startZ at e
  unfold L2.start
  by_cases hi : i < xs.length
  · rw [List.getElem?_append_left (by simpa using hi), List.getElem?_map] at e
    cases h : xs[i]? with
    | none =>
      rw [h] at e
      cases e
    | some y =>
      rw [h] at e
      cases e
      obtain ⟨v, h1, h2⟩ := r.get h
      refine ⟨v, ?_, h2⟩
      rw [List.getElem?_append_left (by simpa [← hl] using hi), List.getElem?_map, h1]
      rfl
  · rw [List.getElem?_append_right (by simpa using hi)] at e
    rw [List.getElem?_replicate] at e
    split at e <;> cases e
theorem body_ok {P : Program} {w : World} {K : PySem.W.Frag} {mg : Str → Option Value} {base : Heap} {x qual : Str} {params : Arguments} {body : List Stmt} {scope : Scope} {dvs : List V} {kws : List (Str × V)} {f : Addr} {fd : FuncData} {N ps : List Str} {k : Nat} {d : DS}
    (F : FunD K x qual params body scope dvs kws f fd) (S : FnScope N ps scope)
    (hb : ∀ (cdv : Value) (A : Around) (outer : List Env) (s : Shared) (H : Hp) (E : XK), Room k (A.deeper (envOfC qual scope s.heap.objs.size f cdv)) → SSs (cxOf (L2.CX P w) P w K mg base N qual scope f cdv A outer s H E) body d) :
    FnOk P w K mg base (L2.CX P w) (k + 1) f fd ps (spZ K ps.length (bodyD N.length d)) := by
  refine funD_ok F S (fun vs H Q E h => h.1) fun cdv A outer s H vs Q E hr h => ?_
  refine ⟨_, (hb cdv A outer s H E hr).run (fun cls dd _ H' => E cls dd H') (takes_of rfl rfl rfl rfl), ?_⟩
  obtain ⟨hl, ρ, m, xs, r, m', M, rx, e, p⟩ := h
  unfold bodyD at e
  split at e
  · rename_i v m2 h1
    cases e
    exact ⟨ρ, _, m, _, _, ⟨M, re_start rx⟩, h1, fun ρ' H' M' E' v' rv => p ρ' H' M' E' v' rv⟩
  · rename_i env m2 h1
    cases e
    exact ⟨ρ, _, m, _, _, ⟨M, re_start rx⟩, h1, fun ρ' H' M' E' σ' rv => p ρ' H' M' E' .non rfl⟩
  · rename_i c fs env m2 h1
    cases e
    exact ⟨ρ, _, m, _, _, ⟨M, re_start rx⟩, h1, fun ρ' H' M' E' σ' rv dd x => p ρ' H' M' E' dd x⟩
  · cases e
/-- the def at f, called with n values and the keywords ks, is g of gz of these -/
structure Fz (P : Program) (w : World) (K : PySem.W.Frag) (mg : Str → Option Value) (base : Heap) (k : Nat) (f : Addr) (n : Nat) (ks : List Str) (gz : List Vl → List Vl → List Vl) (g : FD) : Prop where
  ex : ∃ fd ps gs gV, FnOk P w K mg base (L2.CX P w) k f fd ps (spZ K ps.length g) ∧ KBn K fd ps n ks gs gV ∧
    ∀ (ρ : Lay) (H : Hp) (xs : List Vl) (vs : List V) (ys : List Vl) (zs : List V), xs.length = n → ys.length = ks.length → RVs K ρ H xs vs → RVs K ρ H ys zs → (gV vs zs).length = ps.length ∧ RVs K ρ H (gz xs ys) (gV vs zs)
section
variable {X : Cx} {k n : Nat} {f : Addr} {ks : List Str} {gz : List Vl → List Vl → List Vl} {g : FD} {W : WX}
theorem Fz.imp {P : Program} {w : World} {K : PySem.W.Frag} {mg : Str → Option Value} {base : Heap} {g' : FD} (F : Fz P w K mg base k f n ks gz g) (q : ∀ xs m r' m', g' xs m = some (r', m') → ∃ r m1, g xs m = some (r, m1) ∧ Pk m r m1 r' m') : Fz P w K mg base k f n ks gz g' := by
  obtain ⟨fd, ps, gs, gV, h1, h2, h3⟩ := F.ex
  exact ⟨fd, ps, gs, gV, h1.imp fun vs H Q E h => spZ_pack q vs H Q E h, h2, h3⟩
theorem Fz.mono {P : Program} {w : World} {K : PySem.W.Frag} {mg : Str → Option Value} {base : Heap} {j : Nat} (F : Fz P w K mg base k f n ks gz g) (h : k ≤ j) : Fz P w K mg base j f n ks gz g := by
  obtain ⟨fd, ps, gs, gV, h1, h2, h3⟩ := F.ex
  exact ⟨fd, ps, gs, gV, h1.mono h, h2, h3⟩
theorem Fz.run (F : Fz X.prog X.w X.K X.mg X.base k f n ks gz g) (hr : Room k X.A) (tk : Takes X W) {pins : List (Addr × Obj)} {σ : L2.St} {H : Hp} {s : Shared} {Q : VK} {us ws : List Value} {vs zs : List V} {ρ : Lay} {m m' : Mem} {xs ys : List Vl} {r : R Vl}
    (I : Inv X pins σ H s) (a : Vals vs us) (b : Vals zs ws) (M : RM X.K ρ m H) (ra : RVs X.K ρ H xs vs) (rb : RVs X.K ρ H ys zs) (hn : xs.length = n) (hk : ys.length = ks.length) (e : g (gz xs ys) m = some (r, m'))
    (p : Po X.K ρ H (RV X.K) (fun c dd H' => W c dd σ H') Q r m') : wpAny (model X.prog X.w) X.A (call (.ref f) us (ks.zip ws)) (EP X pins σ Q) X.xe s := by
  obtain ⟨fd, ps, gs, gV, h1, h2, h3⟩ := F.ex
  obtain ⟨hl, rg⟩ := h3 ρ H xs vs ys zs hn hk ra rb
  have r2 := h2.rel a b
  refine wpAny_call (codeAny_mono (h1.run X.A X.stack s H ⟨us, ks.zip ws⟩ (gs us ws) (gV vs zs) Q (fun c dd H' => W c dd σ H') hr I.env0 (h2.to s us ws I.kIn (by rw [← a.length, ← ra.length]; exact hn) (by rw [← b.length, ← rb.length]; exact hk)) r2 ⟨hl, ρ, m, _, r, m', M, rg, e, p⟩) fun r s' hq => ?_)
  cases r with
  | error e => exact tk e s' (XE.of_call I (fun _ _ _ h => h) hq)
  | ok fl =>
    cases fl with
    | ret u => exact I.after hq
    | next => exact False.elim hq
    | brk => exact False.elim hq
    | cont => exact False.elim hq
end
/-! ### calls by name -/
structure SK (X : Cx) (kws : List Keyword) (d : DA) : Prop where
  run : ∀ W, Takes X W → PK X kws (rdA X.K W d)
section
variable {X : Cx} {e : Expr} {es : List Expr} {kws : List Keyword} {pos p : Pos} {de : DE} {d dk : DA} {x : Str} {k n : Nat} {f : Addr} {ks : List Str} {gz : List Vl → List Vl → List Vl} {g : FD}
theorem impPK {t t' : TA} (h : PK X kws t) (q : ∀ σ H Q, t' σ H Q → t σ H Q) : PK X kws t' := ⟨fun p pins s σ H Q I x => h.run p pins s σ H Q I (q σ H Q x)⟩
theorem sk_nil : SK X [] (fun _ m => some (.ok [], m)) := ⟨fun W tk => impPK pk_nil fun σ H Q ⟨ρ, env, m, z, m', s, e, p⟩ => by
  cases e
  exact p ρ H s.mem .refl [] rfl⟩
theorem sk_cons {nm : Option Str} {kpos : Pos} (ha : SE X e de) (hr : SK X kws d) : SK X (⟨nm, e, kpos⟩ :: kws) (dCons de d) := ⟨fun W tk =>
  impPK (pk_cons (ha.run W tk) (hr.run W tk)) fun σ H Q ⟨ρ, env, m, z, m', s, e, p⟩ =>
    bindE s e p fun x m1 ρ1 H1 v s1 E1 r1 e1 p1 => bindA s1 e1 p1 fun xs m2 ρ2 H2 vs s2 E2 r2 e2 p2 => by
      cases e2
      exact p2 ρ2 H2 s2.mem .refl _ ⟨v, vs, rfl, r1.mono E2, r2⟩⟩
variable {gd : List Vl → List Vl → Mem → Option (R Vl × Mem)}
/-- a call of what lies at f: n values, keywords ks -/
def Runs (X : Cx) (f : Addr) (n : Nat) (ks : List Str) (gd : List Vl → List Vl → Mem → Option (R Vl × Mem)) : Prop :=
  ∀ {W : WX} (_ : Takes X W) {pins : List (Addr × Obj)} {σ : L2.St} {H : Hp} {s : Shared} {Q : VK} {us ws : List Value} {vs zs : List V} {ρ : Lay} {m m' : Mem} {xs ys : List Vl} {r : R Vl}
    (_ : Inv X pins σ H s) (_ : Vals vs us) (_ : Vals zs ws) (_ : RM X.K ρ m H) (_ : RVs X.K ρ H xs vs) (_ : RVs X.K ρ H ys zs) (_ : xs.length = n) (_ : ys.length = ks.length) (_ : gd xs ys m = some (r, m'))
    (_ : Po X.K ρ H (RV X.K) (fun c dd H' => W c dd σ H') Q r m'), wpAny (model X.prog X.w) X.A (call (.ref f) us (ks.zip ws)) (EP X pins σ Q) X.xe s
theorem Fz.runs (F : Fz X.prog X.w X.K X.mg X.base k f n ks gz g) (hr : Room k X.A) : Z.Runs X f n ks (fun xs ys => g (gz xs ys)) := fun tk => F.run hr tk
def dCall (n j : Nat) (gd : List Vl → List Vl → Mem → Option (R Vl × Mem)) (d dk : DA) : DE := fun env m => bindR (d env m) fun xs m => bindR (dk env m) fun ys m => if xs.length = n ∧ ys.length = j then gd xs ys m else none
def dNone : DA := fun _ m => some (.ok [], m)
theorem se_call0 (R : Z.Runs X f 0 [] gd) (hk : PySem.W.keepIn X.K (.ref f) = true) (hm : X.mg x = some (.ref f)) (hg : Gl X x) (hdb : (x == ("__debug__" : Str)) = false := by decide) :
    SE X (.Call (.Name x p) [] [] pos) (dCall 0 0 gd dNone dNone) := ⟨fun W tk => ⟨fun pins s σ H Q I h => by
  obtain ⟨ρ, env, m, z, m', st, ee, pp⟩ := h
  unfold dCall dNone bindR at ee
  simp only [List.length_nil, and_self, if_true] at ee
  refine wpAny_Call_Name_kw (ld_glob I hg hm ?_ hdb)
  exact PySem.W.callWith_K0 I.kIn hk (R tk (us := []) (ws := []) (vs := []) (zs := []) (xs := []) (ys := []) I .nil .nil st.mem (show RVs X.K ρ H [] [] from rfl) (show RVs X.K ρ H [] [] from rfl) rfl rfl ee pp)⟩⟩
theorem se_call (R : Z.Runs X f n [] gd) (hk : PySem.W.keepIn X.K (.ref f) = true) (hm : X.mg x = some (.ref f)) (hg : Gl X x) (ha : SA X (e :: es) d) (hdb : (x == ("__debug__" : Str)) = false := by decide)
    (he : starEach (e :: es) X.env = (false, eval e X.env) :: starEach es X.env := by rfl) (hpl : (backTo pos (starEach es X.env)).any (·.1) = false := by rfl) : SE X (.Call (.Name x p) (e :: es) [] pos) (dCall n 0 gd d dNone) := ⟨fun W tk => ⟨fun pins s σ H Q I h => by
  obtain ⟨ρ, env, m, z, m', st, ee, pp⟩ := h
  have h' : rdA X.K W d σ H (fun vs H1 => ∃ ρ1 m1 xs, RM X.K ρ1 m1 H1 ∧ RVs X.K ρ1 H1 xs vs ∧ xs.length = n ∧ gd xs [] m1 = some (z, m') ∧ Po X.K ρ1 H1 (RV X.K) (fun c dd H' => W c dd σ H') Q z m') :=
    bindA st ee pp fun xs m1 ρ1 H1 vs s1 E1 r1 e1 p1 => by
      unfold dNone bindR at e1
      simp only at e1
      split at e1
      · rename_i hn
        exact ⟨ρ1, m1, xs, s1.mem, r1, hn.1, e1, p1⟩
      · cases e1
  refine wpAny_Call_Name_kw (ld_glob I hg hm ?_ hdb)
  refine PySem.W.callWith_K (h₀ := X.base) I.ok.mod.kin hk (thn ((ha.run W tk).run pos pins s σ H _ I h') fun us s1 ⟨vs, H1, I1, r, q⟩ => ⟨I1.kIn, ?_⟩) he hpl
  obtain ⟨ρ1, m1, xs, M1, rx, hn, e1, p1⟩ := q
  exact R tk (ws := []) I1 r .nil M1 rx (show RVs X.K ρ1 H1 [] [] from rfl) hn rfl e1 p1⟩⟩
theorem se_callK0 (R : Z.Runs X f 0 ks gd) (hk : PySem.W.keepIn X.K (.ref f) = true) (hm : X.mg x = some (.ref f)) (hg : Gl X x) (hkw : SK X kws dk)
    (hall : (backToKw pos (keywordEach kws X.env)).all (·.1.isSome) = true := by rfl) (hks : (backToKw pos (keywordEach kws X.env)).filterMap (·.1) = ks := by rfl) (hdb : (x == ("__debug__" : Str)) = false := by decide)
    (hpl : ((backTo pos (starEach [] X.env)).any (·.1) || (backToKw pos (keywordEach kws X.env)).any (·.1.isNone)) = false := by rfl) : SE X (.Call (.Name x p) [] kws pos) (dCall 0 ks.length gd dNone dk) := ⟨fun W tk => ⟨fun pins s σ H Q I h => by
  obtain ⟨ρ, env, m, z, m', st, ee, pp⟩ := h
  have h' : rdA X.K W dk σ H (fun zs H2 => ∃ ρ1 m1 ys, RM X.K ρ1 m1 H2 ∧ RVs X.K ρ1 H2 ys zs ∧ ys.length = ks.length ∧ gd [] ys m1 = some (z, m') ∧ Po X.K ρ1 H2 (RV X.K) (fun c dd H' => W c dd σ H') Q z m') := by
    unfold dCall dNone at ee
    have ee' : (bindR (dk env m) fun ys m => if ([] : List Vl).length = 0 ∧ ys.length = ks.length then gd [] ys m else none) = some (z, m') := ee
    refine bindA st ee' pp fun ys m2 ρ2 H2 zs s2 E2 r2 e2 p2 => ?_
    split at e2
    · rename_i hn
      exact ⟨ρ2, m2, ys, s2.mem, r2, hn.2, e2, p2⟩
    · cases e2
  refine wpAny_Call_Name_kw (ld_glob I hg hm ?_ hdb)
  refine PySem.W.callWith_KW0 (h₀ := X.base) I.ok.mod.kin hk hall ?_ hpl
  refine thn ((hkw.run W tk).run pos pins s σ H _ I h') fun ws s2 ⟨zs, H2, I2, rz, q2⟩ => ⟨I2.kIn, ?_⟩
  rw [hks]
  obtain ⟨ρ1, m1, ys, M1, ry, hy, e1, p1⟩ := q2
  exact R tk (us := []) (vs := []) (xs := []) I2 .nil rz M1 (show RVs X.K ρ1 H2 [] [] from rfl) ry rfl hy e1 p1⟩⟩
theorem se_callK (R : Z.Runs X f n ks gd) (hk : PySem.W.keepIn X.K (.ref f) = true) (hm : X.mg x = some (.ref f)) (hg : Gl X x) (ha : SA X (e :: es) d) (hkw : SK X kws dk)
    (hall : (backToKw pos (keywordEach kws X.env)).all (·.1.isSome) = true := by rfl) (hks : (backToKw pos (keywordEach kws X.env)).filterMap (·.1) = ks := by rfl)
    (hdb : (x == ("__debug__" : Str)) = false := by decide) (he : starEach (e :: es) X.env = (false, eval e X.env) :: starEach es X.env := by rfl)
    (hpl : ((backTo pos (starEach (e :: es) X.env)).any (·.1) || (backToKw pos (keywordEach kws X.env)).any (·.1.isNone)) = false := by rfl) : SE X (.Call (.Name x p) (e :: es) kws pos) (dCall n ks.length gd d dk) := ⟨fun W tk => ⟨fun pins s σ H Q I h => by
  obtain ⟨ρ, env, m, z, m', st, ee, pp⟩ := h
  have h' : rdA X.K W d σ H (fun vs H1 => rdA X.K W dk σ H1 fun zs H2 => ∃ ρ1 m1 xs ys, RM X.K ρ1 m1 H2 ∧ RVs X.K ρ1 H2 xs vs ∧ RVs X.K ρ1 H2 ys zs ∧ xs.length = n ∧ ys.length = ks.length ∧ gd xs ys m1 = some (z, m') ∧ Po X.K ρ1 H2 (RV X.K) (fun c dd H' => W c dd σ H') Q z m') :=
    bindA st ee pp fun xs m1 ρ1 H1 vs s1 E1 r1 e1 p1 => bindA s1 e1 p1 fun ys m2 ρ2 H2 zs s2 E2 r2 e2 p2 => by
      split at e2
      · rename_i hn
        exact ⟨ρ2, m2, xs, ys, s2.mem, r1.mono E2, r2, hn.1, hn.2, e2, p2⟩
      · cases e2
  refine wpAny_Call_Name_kw (ld_glob I hg hm ?_ hdb)
  refine PySem.W.callWith_KW (h₀ := X.base) I.ok.mod.kin hk hall (thn ((ha.run W tk).run pos pins s σ H _ I h') fun us s1 ⟨vs, H1, I1, r, q⟩ => ?_) hpl he
  refine thn ((hkw.run W tk).run pos pins s1 σ H1 _ I1 q) fun ws s2 ⟨zs, H2, I2, rz, q2⟩ => ⟨I2.kIn, ?_⟩
  rw [hks]
  obtain ⟨ρ1, m1, xs, ys, M1, rx, ry, hn, hy, e1, p1⟩ := q2
  exact R tk I2 r rz M1 rx ry hn hy e1 p1⟩⟩
end
end Z
namespace Z
open PySem PySem.Spec PyProof.Rows L2
/-! ### instances -/
def insD (m : Mem) : Vl → Option (Str × List (Str × Vl))
  | .ins c fs => some (c, fs)
  | .obj n => (match m[n]? with
    | some (.ins c fs) => some (c, fs)
    | _ => none)
  | _ => none
theorem insD_ok {K : PySem.W.Frag} {ρ : Lay} {m : Mem} {H : Hp} {x : Vl} {v : V} {c : Str} {fs : List (Str × Vl)} (M : RM K ρ m H) (a : RV K ρ H x v) (h : insD m x = some (c, fs)) : ∃ p dx gs, v = .ref p ∧ H p = some (.ins (He.ga K c) dx gs) ∧ RFs K ρ H fs gs := by
  unfold insD at h
  split at h
  · cases h
    obtain ⟨p, dx, gs, rfl, _, h1, h2⟩ := a
    exact ⟨p, dx, gs, rfl, h1, h2⟩
  · rename_i n
    split at h
    · rename_i c' fs' hy
      cases h
      obtain ⟨p, rfl, hp⟩ := a
      obtain ⟨dx, gs, h1, h2⟩ := M.at_ _ _ _ hy hp
      exact ⟨p, dx, gs, rfl, h1, h2⟩
    · cases h
  · cases h
/-- what the classes cs say of the attribute f: no class of theirs has it -/
def ClsF (K : PySem.W.Frag) (cs : List Str) (f : Str) : Prop := ∀ c ∈ cs, Cls K (He.ga K c) ∧ NoAttr K (He.ga K c) f
section
variable {X : Cx} {e o value : Expr} {es : List Expr} {kws : List Keyword} {pos p apos pos' : Pos} {de dv : DE} {d dk : DA} {x c : Str} {k n : Nat} {f : Addr} {ks : List Str} {gz : List Vl → List Vl → List Vl} {g : FD} {cs : List Str} {fn mn : Str}
def dFld (cs : List Str) (fn : Str) (de : DE) : DE := fun env m => bindR (de env m) fun x m => match insD m x with
  | some (c, fs) => if cs.contains c = true then (match fs.lookup fn with
    | some v => some (.ok v, m)
    | none => none) else none
  | none => none
theorem se_fld (he : SE X e de) (hc : ClsF X.K cs fn) (hb : attributeBase e fn X.env (eval e X.env) = eval e X.env := by rfl) : SE X (.Attribute e fn pos) (dFld cs fn de) := ⟨fun W tk =>
  impPE (pe_fld (he.run W tk) hb) fun σ H Q ⟨ρ, env, m, z, m', s, e, p⟩ => bindE s e p fun x m1 ρ1 H1 v s1 E1 r1 e1 p1 => by
    split at e1
    · rename_i c fs hi
      split at e1
      · rename_i hcs
        split at e1
        · rename_i w hw
          cases e1
          obtain ⟨a, dx, gs, rfl, h1, h2⟩ := insD_ok s1.mem r1 hi
          obtain ⟨v, h3, h4⟩ := h2.get hw
          obtain ⟨k1, k2⟩ := hc c (by simpa using hcs)
          exact ⟨a, _, dx, gs, v, rfl, h1, k1, k2, h3, p1 ρ1 H1 s1.mem .refl v h4⟩
        · cases e1
      · cases e1
    · cases e1⟩
/-- o.f = e, o a cell -/
def sFldD (cs : List Str) (fn : Str) (dv de : DE) : DS := fun env m => bindS (dv env m) env fun y m => bindS (de env m) env fun x m => match x with
  | .obj n => (match m[n]? with
    | some (.ins c fs) => if (cs.contains c && decide (fs.length < 1000)) = true then some (.nx env, m.set n (.ins c (putL fn y fs))) else none
    | _ => none)
  | _ => none
theorem ss_fld (ho : SE X o de) (hv : SE X value dv) (hc : ClsF X.K cs fn) (hs : swapsWith value (some (.Attribute o fn pos')) pos.line X.env = pure false := by rfl) : SS X (.Assign [.Attribute o fn pos'] value pos) (sFldD cs fn dv de) := ⟨fun W tk =>
  impPS (ps_fld (ho.run W tk) (hv.run W tk) hs) fun D σ H ⟨ρ, env, m, f, m', s, e, p⟩ => sbE s e p fun y m1 ρ1 H1 v s1 E1 r1 e1 p1 => sbE s1 e1 p1 fun x m2 ρ2 H2 u s2 E2 r2 e2 p2 => by
    split at e2
    · rename_i n
      split at e2
      · rename_i c fs hm
        split at e2
        · rename_i hcs
          cases e2
          rw [Bool.and_eq_true, decide_eq_true_eq] at hcs
          obtain ⟨a, rfl, hp⟩ := r2
          obtain ⟨dx, gs, h1, h2⟩ := s2.mem.at_ _ _ _ hm hp
          obtain ⟨k1, k2⟩ := hc c (by simpa using hcs.1)
          have hex : Ext ρ2 H2 ρ2 (upd H2 a (.ins (He.ga X.K c) dx (putF fn v gs))) := ext_set (List.mem_of_getElem? hp)
          refine ⟨a, _, dx, gs, rfl, h1, k1, k2, by rw [← h2.length]; exact hcs.2, p2 ρ2 _ (s2.mem.put hp ⟨dx, _, upd_same, (h2.mono hex).put ((r1.mono E2).mono hex)⟩) hex σ (s2.env.mono hex)⟩
        · cases e2
      · cases e2
    · cases e2⟩
/-! ### C(..) -/
/-- what a new instance of c is made by: __init__ at f -/
def initD (c : Str) (gz : List Vl → List Vl → List Vl) (g : FD) (xs ys : List Vl) (m : Mem) : Option (R Vl × Mem) := match g (gz (.obj m.length :: xs) ys) (m ++ [.ins c []]) with
  | some (.ok .non, m') => some (.ok (.obj m.length), m')
  | some (.ex c fs, m') => some (.ex c fs, m')
  | _ => none
theorem Fz.make {W : WX} (M : Mk X.K (He.ga X.K c) f) (F : Fz X.prog X.w X.K X.mg X.base k f (n + 1) ks gz g) (hr : Room (k + 1) X.A) (tk : Takes X W) {pins : List (Addr × Obj)} {σ : L2.St} {H : Hp} {s : Shared} {Q : VK} {us ws : List Value} {vs zs : List V} {ρ : Lay} {m m' : Mem} {xs ys : List Vl} {r : R Vl}
    (I : Inv X pins σ H s) (a : Vals vs us) (b : Vals zs ws) (Mm : RM X.K ρ m H) (ra : RVs X.K ρ H xs vs) (rb : RVs X.K ρ H ys zs) (hn : xs.length = n) (hk : ys.length = ks.length) (e : initD c gz g xs ys m = some (r, m'))
    (p : Po X.K ρ H (RV X.K) (fun c dd H' => W c dd σ H') Q r m') : wpAny (model X.prog X.w) X.A (call (.ref (He.ga X.K c)) us (ks.zip ws)) (EP X pins σ Q) X.xe s := by
  obtain ⟨fd, ps, gs, gV, h1, h2, h3⟩ := F.ex
  have I2 := Inv.made (C := He.ga X.K c) I
  have f1 : H s.heap.objs.size = none := I.hok.fresh (Nat.le_refl _)
  have f2 : H (s.heap.objs.size + 1) = none := I.hok.fresh (Nat.le_succ _)
  have M1 := Mm.laid (o := .own (s.heap.objs.size + 1)) f1
  have ne1 : s.heap.objs.size + 1 ≠ s.heap.objs.size := Nat.succ_ne_self _
  have f3 : (upd H s.heap.objs.size (.own (s.heap.objs.size + 1))) (s.heap.objs.size + 1) = none := by rw [upd_ne ne1]; exact f2
  have M2 := M1.laid (o := .ins (He.ga X.K c) s.heap.objs.size []) f3
  have w1 := M1.fresh f3
  have w2 := M1.freshz f3
  have E0 : Ext ρ H ρ (upd (upd H s.heap.objs.size (.own (s.heap.objs.size + 1))) (s.heap.objs.size + 1) (.ins (He.ga X.K c) s.heap.objs.size [])) := (ext_new f1).trans (ext_new f3)
  have E3 := E0.toCel ⟨w1, w2, f2⟩
  have M3 := M2.toCel (c := .ins c []) w1 w2 upd_same rfl ⟨s.heap.objs.size, [], upd_same, rfl⟩
  have ro : RV X.K (ρ.cel (s.heap.objs.size + 1)) (upd (upd H s.heap.objs.size (.own (s.heap.objs.size + 1))) (s.heap.objs.size + 1) (.ins (He.ga X.K c) s.heap.objs.size [])) (.obj m.length) (.ref (s.heap.objs.size + 1)) := ⟨_, rfl, by
    show (ρ.c ++ [s.heap.objs.size + 1])[m.length]? = _
    rw [← Mm.len]
    simp⟩
  have rx : RVs X.K (ρ.cel (s.heap.objs.size + 1)) (upd (upd H s.heap.objs.size (.own (s.heap.objs.size + 1))) (s.heap.objs.size + 1) (.ins (He.ga X.K c) s.heap.objs.size [])) (.obj m.length :: xs) (.ref (s.heap.objs.size + 1) :: vs) := ⟨_, _, rfl, ro, ra.mono E3⟩
  have r1 : Vals (V.ref (s.heap.objs.size + 1) :: vs) (Value.ref (s.heap.objs.size + 1) :: us) := .cons rfl a
  obtain ⟨hl, rg⟩ := h3 _ _ _ _ ys zs (by rw [List.length_cons, hn]) hk rx (rb.mono E3)
  have r2 := h2.rel r1 b
  have hpost : ∃ r0, g (gz (.obj m.length :: xs) ys) (m ++ [.ins c []]) = some (r0, m') ∧ Po X.K (ρ.cel (s.heap.objs.size + 1)) (upd (upd H s.heap.objs.size (.own (s.heap.objs.size + 1))) (s.heap.objs.size + 1) (.ins (He.ga X.K c) s.heap.objs.size [])) (RV X.K) (fun c dd H' => W c dd σ H') (fun v H2 => v = .non ∧ Q (.ref (s.heap.objs.size + 1)) H2) r0 m' := by
    unfold initD at e
    split at e
    · rename_i m2 h4
      cases e
      refine ⟨_, h4, fun ρ' H' M' E' v rv => ⟨rv, p ρ' H' M' (E3.trans E') _ (ro.mono E')⟩⟩
    · rename_i c' fs m2 h4
      cases e
      exact ⟨_, h4, fun ρ' H' M' E' dd x => p ρ' H' M' (E3.trans E') dd x⟩
    · cases e
  obtain ⟨r0, hg, hp⟩ := hpost
  refine wpAny_call (make_map (f := f) I.kIn M.makes M.init (beq_iff_eq.mp M.fn) (codeAny_mono (h1.run _ X.stack _ _ ⟨Value.ref (s.heap.objs.size + 1) :: us, ks.zip ws⟩ (gs (Value.ref (s.heap.objs.size + 1) :: us) ws) _ _ (fun c dd H' => W c dd σ H') (hr.make _ us (ks.zip ws))
    (I2.env0.make _ us (ks.zip ws)) (h2.to _ (Value.ref (s.heap.objs.size + 1) :: us) ws I2.kIn (by rw [List.length_cons, ← a.length, ← ra.length, hn]) (by rw [← b.length, ← rb.length]; exact hk)) r2 ⟨hl, _, _, _, r0, m', M3, rg, hg, hp⟩) fun r s' hq' => ?_))
  cases r with
  | error e => exact tk e s' (XE.of_call I2 (fun _ _ _ h => h) hq')
  | ok fl =>
    cases fl with
    | ret u =>
      obtain ⟨v, H', I3, rv, ev, q3⟩ := I2.after hq'
      subst ev
      exact ⟨rv, ⟨V.ref (s.heap.objs.size + 1), H', I3, rfl, q3⟩⟩
    | next => exact False.elim hq'
    | brk => exact False.elim hq'
    | cont => exact False.elim hq'
theorem Fz.mruns (M : Mk X.K (He.ga X.K c) f) (F : Fz X.prog X.w X.K X.mg X.base k f (n + 1) ks gz g) (hr : Room (k + 1) X.A)   : Z.Runs X (He.ga X.K c) n ks (initD c gz g) := fun tk => F.make M hr tk
/-! ### methods -/
/-- o.m(..) of an instance of the class c -/
def dMeth (c mn : Str) (n j : Nat) (gz : List Vl → List Vl → List Vl) (g : FD) (de : DE) (d dk : DA) : DE := fun env m => bindR (de env m) fun x m => match insD m x with
  | some (c', fs) => if (decide (c' = c) && (fs.lookup mn).isNone) = true then bindR (d env m) fun xs m => bindR (dk env m) fun ys m => if xs.length = n ∧ ys.length = j then g (gz (x :: xs) ys) m else none else none
  | none => none
theorem se_meth {pl : Sem Bool} (he : SE X o de) (hc : Cls X.K (He.ga X.K c)) (hm : Meth X.K (He.ga X.K c) mn f) (F : Fz X.prog X.w X.K X.mg X.base k f (n + 1) [] gz g) (hr : Room k X.A) (ha : SA X (e :: es) d)
    (hst : starEach (e :: es) X.env = (false, eval e X.env) :: starEach es X.env := by rfl) (hpl : (backTo pos (starEach es X.env)).any (·.1) = false := by rfl)
    (ht : eval (.Call (.Attribute o mn apos) (e :: es) [] pos) X.env = (do
      let ov ← eval o X.env
      standAt apos.atName
      let (f, first) ← holding [ov] (getMethod ov mn pl)
      callWith pos f first (backTo pos (starEach (e :: es) X.env)) (backToKw pos (keywordEach [] X.env))) := by rfl) :
    SE X (.Call (.Attribute o mn apos) (e :: es) [] pos) (dMeth c mn n 0 gz g de d dNone) := ⟨fun W tk => ⟨fun pins s σ H Q I h => by
  obtain ⟨ρ, env, m, z, m', st, ee, pp⟩ := h
  have h' : rdE X.K W de σ H (fun v H1 => ∃ a dx gs, v = .ref a ∧ H1 a = some (.ins (He.ga X.K c) dx gs) ∧ gs.lookup mn = none ∧ rdA X.K W d σ H1 fun vs H2 => ∃ ρ1 m1 xs, RM X.K ρ1 m1 H2 ∧ RVs X.K ρ1 H2 xs (.ref a :: vs) ∧ xs.length = n + 1 ∧ g (gz xs []) m1 = some (z, m') ∧ Po X.K ρ1 H2 (RV X.K) (fun c dd H' => W c dd σ H') Q z m') :=
    bindE st ee pp fun x m1 ρ1 H1 v s1 E1 r1 e1 p1 => by
      split at e1
      · rename_i c' fs hi
        split at e1
        · rename_i hcc
          rw [Bool.and_eq_true, decide_eq_true_eq, Option.isNone_iff_eq_none] at hcc
          obtain ⟨rfl, hl⟩ := hcc
          obtain ⟨a, dx, gs, rfl, h1, h2⟩ := insD_ok s1.mem r1 hi
          refine ⟨a, dx, gs, rfl, h1, h2.none hl, bindA s1 e1 p1 fun xs m2 ρ2 H2 vs s2 E2 r2 e2 p2 => ?_⟩
          unfold dNone bindR at e2
          simp only at e2
          split at e2
          · rename_i hn
            exact ⟨ρ2, m2, x :: xs, s2.mem, ⟨_, _, rfl, r1.mono E2, r2⟩, by rw [List.length_cons, hn.1], e2, p2⟩
          · cases e2
        · cases e1
      · cases e1
  refine PySem.W.methodCall_KW (pl := pl) (thn ((he.run W tk).run pins s σ H _ I h') fun u s1 ⟨x, H1, I1, rx, a, dx, fs, ex, ea, l, q⟩ => ?_) ht
  subst ex
  obtain rfl : u = Value.ref a := rx
  refine getmeth_ok I1 ea hc hm l ?_
  refine PySem.W.callWith_K (first := [.ref a]) (h₀ := X.base) I.ok.mod.kin hm.kp (thn ((ha.run W tk).run pos pins s1 σ H1 _ I1 q) fun us s2 ⟨vs, H2, I2, r, q2⟩ => ⟨I2.kIn, ?_⟩) hst hpl
  obtain ⟨ρ1, m1, xs, M1, rx, hn, e1, p1⟩ := q2
  exact F.run hr tk (us := .ref a :: us) (vs := .ref a :: vs) (ws := []) I2 (.cons rfl r) .nil M1 rx (show RVs X.K ρ1 H2 [] [] from rfl) hn rfl e1 p1⟩⟩
theorem se_meth0 {pl : Sem Bool} (he : SE X o de) (hc : Cls X.K (He.ga X.K c)) (hm : Meth X.K (He.ga X.K c) mn f) (F : Fz X.prog X.w X.K X.mg X.base k f 1 [] gz g) (hr : Room k X.A)
    (ht : eval (.Call (.Attribute o mn apos) [] [] pos) X.env = (do
      let ov ← eval o X.env
      standAt apos.atName
      let (f, first) ← holding [ov] (getMethod ov mn pl)
      callWith pos f first (backTo pos (starEach [] X.env)) (backToKw pos (keywordEach [] X.env))) := by rfl) :
    SE X (.Call (.Attribute o mn apos) [] [] pos) (dMeth c mn 0 0 gz g de dNone dNone) := ⟨fun W tk => ⟨fun pins s σ H Q I h => by
  obtain ⟨ρ, env, m, z, m', st, ee, pp⟩ := h
  have h' : rdE X.K W de σ H (fun v H1 => ∃ a dx gs, v = .ref a ∧ H1 a = some (.ins (He.ga X.K c) dx gs) ∧ gs.lookup mn = none ∧ ∃ ρ1 m1 xs, RM X.K ρ1 m1 H1 ∧ RVs X.K ρ1 H1 xs [.ref a] ∧ xs.length = 1 ∧ g (gz xs []) m1 = some (z, m') ∧ Po X.K ρ1 H1 (RV X.K) (fun c dd H' => W c dd σ H') Q z m') :=
    bindE st ee pp fun x m1 ρ1 H1 v s1 E1 r1 e1 p1 => by
      split at e1
      · rename_i c' fs hi
        split at e1
        · rename_i hcc
          rw [Bool.and_eq_true, decide_eq_true_eq, Option.isNone_iff_eq_none] at hcc
          obtain ⟨rfl, hl⟩ := hcc
          obtain ⟨a, dx, gs, rfl, h1, h2⟩ := insD_ok s1.mem r1 hi
          unfold dNone bindR at e1
          simp only [List.length_nil, and_self, if_true] at e1
          exact ⟨a, dx, gs, rfl, h1, h2.none hl, ρ1, m1, [x], s1.mem, ⟨_, _, rfl, r1, rfl⟩, rfl, e1, p1⟩
        · cases e1
      · cases e1
  refine PySem.W.methodCall_KW (pl := pl) (thn ((he.run W tk).run pins s σ H _ I h') fun u s1 ⟨x, H1, I1, rx, a, dx, fs, ex, ea, l, q⟩ => ?_) ht
  subst ex
  obtain rfl : u = Value.ref a := rx
  refine getmeth_ok I1 ea hc hm l ?_
  obtain ⟨ρ1, m1, xs, M1, rx, hn, e1, p1⟩ := q
  exact PySem.W.callWith_K0 (first := [.ref a]) I1.kIn hm.kp (F.run hr tk (us := [.ref a]) (vs := [.ref a]) (ws := []) I1 (.cons rfl .nil) .nil M1 rx (show RVs X.K ρ1 H1 [] [] from rfl) hn rfl e1 p1)⟩⟩
theorem se_methK {pl : Sem Bool} (he : SE X o de) (hc : Cls X.K (He.ga X.K c)) (hm : Meth X.K (He.ga X.K c) mn f) (F : Fz X.prog X.w X.K X.mg X.base k f (n + 1) ks gz g) (hr : Room k X.A) (ha : SA X (e :: es) d) (hkw : SK X kws dk)
    (hall : (backToKw pos (keywordEach kws X.env)).all (·.1.isSome) = true := by rfl) (hks : (backToKw pos (keywordEach kws X.env)).filterMap (·.1) = ks := by rfl)
    (hst : starEach (e :: es) X.env = (false, eval e X.env) :: starEach es X.env := by rfl)
    (hpl : ((backTo pos (starEach (e :: es) X.env)).any (·.1) || (backToKw pos (keywordEach kws X.env)).any (·.1.isNone)) = false := by rfl)
    (ht : eval (.Call (.Attribute o mn apos) (e :: es) kws pos) X.env = (do
      let ov ← eval o X.env
      standAt apos.atName
      let (f, first) ← holding [ov] (getMethod ov mn pl)
      callWith pos f first (backTo pos (starEach (e :: es) X.env)) (backToKw pos (keywordEach kws X.env))) := by rfl) :
    SE X (.Call (.Attribute o mn apos) (e :: es) kws pos) (dMeth c mn n ks.length gz g de d dk) := ⟨fun W tk => ⟨fun pins s σ H Q I h => by
  obtain ⟨ρ, env, m, z, m', st, ee, pp⟩ := h
  have h' : rdE X.K W de σ H (fun v H1 => ∃ a dx gs, v = .ref a ∧ H1 a = some (.ins (He.ga X.K c) dx gs) ∧ gs.lookup mn = none ∧ rdA X.K W d σ H1 fun vs H2 => rdA X.K W dk σ H2 fun zs H3 => ∃ ρ1 m1 xs ys, RM X.K ρ1 m1 H3 ∧ RVs X.K ρ1 H3 xs (.ref a :: vs) ∧ RVs X.K ρ1 H3 ys zs ∧ xs.length = n + 1 ∧ ys.length = ks.length ∧ g (gz xs ys) m1 = some (z, m') ∧ Po X.K ρ1 H3 (RV X.K) (fun c dd H' => W c dd σ H') Q z m') :=
    bindE st ee pp fun x m1 ρ1 H1 v s1 E1 r1 e1 p1 => by
      split at e1
      · rename_i c' fs hi
        split at e1
        · rename_i hcc
          rw [Bool.and_eq_true, decide_eq_true_eq, Option.isNone_iff_eq_none] at hcc
          obtain ⟨rfl, hl⟩ := hcc
          obtain ⟨a, dx, gs, rfl, h1, h2⟩ := insD_ok s1.mem r1 hi
          refine ⟨a, dx, gs, rfl, h1, h2.none hl, bindA s1 e1 p1 fun xs m2 ρ2 H2 vs s2 E2 r2 e2 p2 => bindA s2 e2 p2 fun ys m3 ρ3 H3 zs s3 E3 r3 e3 p3 => ?_⟩
          split at e3
          · rename_i hn
            exact ⟨ρ3, m3, x :: xs, ys, s3.mem, ⟨_, _, rfl, r1.mono (E2.trans E3), r2.mono E3⟩, r3, by rw [List.length_cons, hn.1], hn.2, e3, p3⟩
          · cases e3
        · cases e1
      · cases e1
  refine PySem.W.methodCall_KW (pl := pl) (thn ((he.run W tk).run pins s σ H _ I h') fun u s1 ⟨x, H1, I1, rx, a, dx, fs, ex, ea, l, q⟩ => ?_) ht
  subst ex
  obtain rfl : u = Value.ref a := rx
  refine getmeth_ok I1 ea hc hm l ?_
  refine PySem.W.callWith_KW (first := [.ref a]) (h₀ := X.base) I.ok.mod.kin hm.kp hall (thn ((ha.run W tk).run pos pins s1 σ H1 _ I1 q) fun us s2 ⟨vs, H2, I2, r, q2⟩ => ?_) hpl hst
  refine thn ((hkw.run W tk).run pos pins s2 σ H2 _ I2 q2) fun ws s3 ⟨zs, H3, I3, rz, q3⟩ => ⟨I3.kIn, ?_⟩
  rw [hks]
  obtain ⟨ρ1, m1, xs, ys, M1, rx, ry, hn, hy, e1, p1⟩ := q3
  exact F.run hr tk (us := .ref a :: us) (vs := .ref a :: vs) I3 (.cons rfl r) rz M1 rx ry hn hy e1 p1⟩⟩
/-! ### properties -/
def dProp (c fn : Str) (gz : List Vl → List Vl → List Vl) (g : FD) (de : DE) : DE := fun env m => bindR (de env m) fun x m => match insD m x with
  | some (c', fs) => if c' = c then (match g (gz [x] []) m with
    | some (.ok v, m) => some (.ok v, m)
    | _ => none) else none
  | none => none
theorem passF : Passes (L2.CX X.prog X.w) X.nox (fun _ _ _ => False) := fun _ _ _ _ _ _ _ h => by
  obtain ⟨_, _, _, _, _, _, _, _, _, _, _, _, q⟩ := h
  exact q
theorem se_prop {pa : Addr} (he : SE X e de) (hc : Cls X.K (He.ga X.K c)) (hp : PropOf X.K (He.ga X.K c) fn pa f) (F : Fz X.prog X.w X.K X.mg X.base k f 1 [] gz g) (hr : Room (k + 1) X.A)
    (hab : attributeBase e fn X.env (eval e X.env) = eval e X.env := by rfl) : SE X (.Attribute e fn pos) (dProp c fn gz g de) := ⟨fun W tk => ⟨fun pins s σ H Q I h => by
  obtain ⟨ρ, env, m, z, m', st, ee, pp⟩ := h
  have h' : rdE X.K W de σ H (fun v H1 => ∃ a dx gs, v = .ref a ∧ H1 a = some (.ins (He.ga X.K c) dx gs) ∧ ∃ ρ1 m1 xs, RM X.K ρ1 m1 H1 ∧ RVs X.K ρ1 H1 xs [.ref a] ∧ xs.length = 1 ∧ g (gz xs []) m1 = some (z, m') ∧ (∃ v, z = .ok v) ∧ Po X.K ρ1 H1 (RV X.K) (fun c dd H' => W c dd σ H') Q z m') :=
    bindE st ee pp fun x m1 ρ1 H1 v s1 E1 r1 e1 p1 => by
      split at e1
      · rename_i c' fs hi
        split at e1
        · rename_i hcc
          subst hcc
          obtain ⟨a, dx, gs, rfl, h1, h2⟩ := insD_ok s1.mem r1 hi
          split at e1
          · rename_i w m2 hg
            cases e1
            exact ⟨a, dx, gs, rfl, h1, ρ1, m1, [x], s1.mem, ⟨_, _, rfl, r1, rfl⟩, rfl, hg, ⟨_, rfl⟩, p1⟩
          · cases e1
        · cases e1
      · cases e1
  refine attr_of hab (thn ((he.run W tk).run pins s σ H _ I h') fun u s1 ⟨x, H1, I1, rx, a, dx, fs, ex, ea, ρ1, m1, xs, M1, rx1, hn, e1, ⟨w, hw⟩, p1⟩ => ?_)
  subst ex
  obtain rfl : u = Value.ref a := rx
  obtain ⟨fd, ps, gs, gV, h1, h2, h3⟩ := F.ex
  subst hw
  obtain ⟨hl, rg⟩ := h3 ρ1 H1 xs [.ref a] [] [] hn rfl rx1 rfl
  obtain ⟨mA, O, _, _, _, _⟩ := ins_get I1.hok ea
  obtain ⟨od, J, _⟩ := O.look
  obtain ⟨rest, hrec⟩ := hp.rec_
  have I1' := I1.tok (s1.toks + 1)
  have hcl : (PySem.W.clsIn X.K (He.ga X.K c)).isSome = true := by
    obtain ⟨cd, hc', _⟩ := PySem.W.any_some hc.hd
    rw [hc']
    rfl
  have rv : Vals [V.ref a] [Value.ref a] := .cons rfl .nil
  have r2 := h2.rel rv (.nil : Vals [] [])
  refine PySem.W.get_bind I1.kIn J (PySem.W.plainGet_of (hc.get fn)).1 (PySem.W.findObj_data hcl hp.at_ hp.get hp.tak) (PySem.W.plainGet_of (hc.get fn)).2 (wpAny_call (PySem.W.prop_get (s := { s1 with toks := s1.toks + 1 }) I1.kIn hrec ?_))
  refine codeAny_mono (h1.run X.A.in1 X.stack { s1 with toks := s1.toks + 1 } H1 ⟨[.ref a], []⟩ (gs [.ref a] []) (gV [.ref a] []) Q (fun _ _ _ => False) hr.in1 I1'.env0.in1 (h2.to _ [.ref a] [] I1'.kIn rfl rfl) r2
    ⟨hl, ρ1, m1, _, _, m', M1, rg, e1, fun ρ' H' M E v rv => p1 ρ' H' M E v rv⟩) fun r s' hq => ?_
  cases r with
  | error er => exact False.elim (passF (X := X) pins σ H1 { s1 with toks := s1.toks + 1 } er s' (I1'.wish _) hq)
  | ok fl =>
    cases fl with
    | ret u =>
      obtain ⟨v, H', I3, rv, q3⟩ := I1'.after hq
      show wpAny _ _ (handedOut u) _ _ _
      rw [PySem.W.handedOut_of (handed_of rv)]
      exact wpAny_pure ⟨v, H', I3, rv, q3⟩
    | next => exact False.elim hq
    | brk => exact False.elim hq
    | cont => exact False.elim hq⟩⟩
/-! ### names of the module, constants of classes -/
theorem se_glo (hg : Gl X x) (hm : X.mg x = some (.ref (He.ga X.K c))) (hd : (x == ("__debug__" : Str)) = false := by decide) : SE X (.Name x pos) (dC (.glo c)) := se_of (pe_glob (v := .ref (He.ga X.K c)) hg hm rfl hd) fun _ _ => rfl
theorem se_glob {v : V} {u : Value} {y : Vl} (hg : Gl X x) (hm : X.mg x = some u) (r : RelV v u) (ry : ∀ ρ H, RV X.K ρ H y v) (hd : (x == ("__debug__" : Str)) = false := by decide) : SE X (.Name x pos) (dC y) := se_of (pe_glob hg hm r hd) ry
theorem se_ty {n : String} (hg : Gl X x) (hm : X.mg x = none) (hv : bootBuiltins x = some (.type n)) (hn : x ≠ "__name__" := by decide) (hd : (x == ("__debug__" : Str)) = false := by decide) : SE X (.Name x pos) (dC (.ty n)) := se_of (pe_bltn hg hm hv (v := .ty n) rfl hn hd) fun _ _ => rfl
end
end Z
namespace Z
open PySem PySem.Spec PyProof.Rows L2
/-! ### what is walked -/
/-- the walk J hands out the values xs, whatever is done beside -/
def ItOk (K : PySem.W.Frag) (J : It) (ρ0 : Lay) (H0 : Hp) (xs : List Vl) : Prop := ∀ (i : Nat) (ρ : Lay) (m : Mem) (H : Hp), Ext ρ0 H0 ρ H → RM K ρ m H →
  (∀ x, xs[i]? = some x → J.go i H ∧ ∀ v H', J.yld i H v H' → RM K ρ m H' ∧ Ext ρ H ρ H' ∧ RV K ρ H' x v) ∧ (xs.length ≤ i → J.stop i H)
def rdI (K : PySem.W.Frag) (W : WX) (d : DA) : TI := fun σ H R => ∃ ρ env m r m', S K ρ env m σ H ∧ d env m = some (r, m') ∧ ∀ ρ' H', RM K ρ' m' H' → Ext ρ H ρ' H' → match r with
  | .ok xs => ∀ J, ItOk K J ρ' H' xs → R J H'
  | .ex c fs => ∀ dd, XD K ρ' H' dd fs → W (.ref (He.ga K c)) dd σ H'
structure SI (X : Cx) (tg iter : Expr) (d : DA) : Prop where
  run : ∀ W, Takes X W → PI X tg iter (rdI X.K W d)
theorem impPI {X : Cx} {tg iter : Expr} {t t' : TI} (h : PI X tg iter t) (q : ∀ σ H R, t' σ H R → t σ H R) : PI X tg iter t' := ⟨fun pins s σ H R I x => h.run pins s σ H R I (q σ H R x)⟩
section
variable {K : PySem.W.Frag} {ρ0 : Lay} {H0 : Hp} {xs ys : List Vl} {vs us : List V} {a b : Addr}
theorem itOk_list (h : ∀ ρ H, Ext ρ0 H0 ρ H → SqL K H a vs) (r : RVs K ρ0 H0 xs vs) : ItOk K (Itl K a) ρ0 H0 xs := fun i ρ m H E M => by
  refine ⟨fun x hx => ?_, fun hl => ⟨vs, h ρ H E, by rw [← r.length]; exact hl⟩⟩
  obtain ⟨v, h1, h2⟩ := r.get hx
  refine ⟨⟨vs, v, h ρ H E, h1⟩, fun w H' q => ?_⟩
  obtain ⟨rfl, q2⟩ := q
  have := q2 vs (h ρ _ E)
  rw [h1] at this
  cases this
  exact ⟨M, .refl, h2.mono E⟩
theorem itOk_tup (h : ∀ ρ H, Ext ρ0 H0 ρ H → SqT K H a vs) (r : RVs K ρ0 H0 xs vs) : ItOk K (Itt K a) ρ0 H0 xs := fun i ρ m H E M => by
  refine ⟨fun x hx => ?_, fun hl => ⟨vs, h ρ H E, by rw [← r.length]; exact hl⟩⟩
  obtain ⟨v, h1, h2⟩ := r.get hx
  refine ⟨⟨vs, v, h ρ H E, h1⟩, fun w H' q => ?_⟩
  obtain ⟨rfl, q2⟩ := q
  have := q2 vs (h ρ _ E)
  rw [h1] at this
  cases this
  exact ⟨M, .refl, h2.mono E⟩
def intsZ (lo : Int) (n : Nat) : List Vl := (List.range n).map fun i => .int (lo + (i : Nat))
theorem intsZ_get {lo : Int} {n i : Nat} {x : Vl} (h : (intsZ lo n)[i]? = some x) : i < n ∧ x = .int (lo + (i : Nat)) := by
  unfold intsZ at h
  rw [List.getElem?_map] at h
  cases q : (List.range n)[i]? with
  | none =>
    rw [q] at h
    cases h
  | some j =>
    rw [q] at h
    obtain ⟨h1, h2⟩ := List.getElem?_eq_some_iff.mp q
    rw [List.getElem_range] at h2
    rw [List.length_range] at h1
    subst h2
    cases h
    exact ⟨h1, rfl⟩
theorem itOk_range {lo : Int} {n : Nat} : ItOk K (Itr lo n) ρ0 H0 (intsZ lo n) := fun i ρ m H E M => by
  refine ⟨fun x hx => ?_, fun hl => ?_⟩
  · obtain ⟨h1, rfl⟩ := intsZ_get hx
    refine ⟨h1, fun w H' q => ?_⟩
    obtain ⟨rfl, rfl⟩ := q
    exact ⟨M, .refl, rfl⟩
  · unfold intsZ at hl
    rw [List.length_map, List.length_range] at hl
    exact hl
def enumZ (xs : List Vl) : List Vl := (List.range xs.length).zipWith (fun i x => .tup [.int (i : Nat), x]) xs
theorem enumZ_get {i : Nat} {y : Vl} (h : (enumZ xs)[i]? = some y) : ∃ x, xs[i]? = some x ∧ y = .tup [.int (i : Nat), x] := by
  unfold enumZ at h
  rw [List.getElem?_zipWith] at h
  cases q : xs[i]? with
  | none =>
    rw [q] at h
    cases q2 : (List.range xs.length)[i]? <;> rw [q2] at h <;> cases h
  | some x =>
    have hi := (List.getElem?_eq_some_iff.mp q).1
    rw [q, List.getElem?_range hi] at h
    cases h
    exact ⟨x, rfl, rfl⟩
theorem enumZ_len : (enumZ xs).length = xs.length := by
  unfold enumZ
  simp
theorem itOk_enum (h : ∀ ρ H, Ext ρ0 H0 ρ H → SqL K H a vs) (r : RVs K ρ0 H0 xs vs) : ItOk K (Ite K a) ρ0 H0 (enumZ xs) := fun i ρ m H E M => by
  refine ⟨fun y hy => ?_, fun hl => ⟨vs, h ρ H E, by rw [← r.length, ← enumZ_len (xs := xs)]; exact hl⟩⟩
  obtain ⟨x, hx, rfl⟩ := enumZ_get hy
  obtain ⟨v, h1, h2⟩ := r.get hx
  refine ⟨⟨vs, v, h ρ H E, h1⟩, fun w H' q => ?_⟩
  obtain ⟨T, u, rfl, hT, rfl, q2⟩ := q
  have := q2 vs (h ρ _ E)
  rw [h1] at this
  cases this
  exact ⟨M.laid hT, ext_new hT, new_tup M hT ⟨_, _, rfl, rfl, _, _, rfl, h2.mono E, rfl⟩⟩
def zipZ (xs ys : List Vl) : List Vl := xs.zipWith (fun x y => .tup [x, y]) ys
theorem itOk_zip (h : ∀ ρ H, Ext ρ0 H0 ρ H → SqL K H a vs) (h' : ∀ ρ H, Ext ρ0 H0 ρ H → SqL K H b us) (r : RVs K ρ0 H0 xs vs) (r' : RVs K ρ0 H0 ys us) : ItOk K (Itz K a b) ρ0 H0 (zipZ xs ys) := fun i ρ m H E M => by
  refine ⟨fun z hz => ?_, fun hl => ⟨vs, us, h ρ H E, h' ρ H E, by
    unfold zipZ at hl
    rw [List.length_zipWith, r.length, r'.length] at hl
    omega⟩⟩
  unfold zipZ at hz
  rw [List.getElem?_zipWith] at hz
  cases q1 : xs[i]? with
  | none =>
    rw [q1] at hz
    cases q2 : ys[i]? <;> rw [q2] at hz <;> cases hz
  | some x =>
    rw [q1] at hz
    cases q2 : ys[i]? with
    | none =>
      rw [q2] at hz
      cases hz
    | some y =>
      rw [q2] at hz
      cases hz
      obtain ⟨v, h1, h2⟩ := r.get q1
      obtain ⟨u, h3, h4⟩ := r'.get q2
      refine ⟨⟨vs, us, v, u, h ρ H E, h' ρ H E, h1, h3⟩, fun w H' q => ?_⟩
      obtain ⟨T, v', u', rfl, hT, rfl, q5, q6⟩ := q
      have e1 := q5 vs (h ρ _ E)
      have e2 := q6 us (h' ρ _ E)
      rw [h1] at e1
      rw [h3] at e2
      cases e1
      cases e2
      exact ⟨M.laid hT, ext_new hT, new_tup M hT ⟨_, _, rfl, h2.mono E, _, _, rfl, h4.mono E, rfl⟩⟩
end
/-- lists that stay as they are: read at every later state -/
def staD : Vl → Option (List Vl)
  | .lst xs => some xs
  | .frl xs => some xs
  | _ => none
theorem staD_ok {K : PySem.W.Frag} {ρ : Lay} {H : Hp} {x : Vl} {v : V} {xs : List Vl} (a : RV K ρ H x v) (h : staD x = some xs) : ∃ p vs, v = .ref p ∧ (∀ ρ' H', Ext ρ H ρ' H' → SqL K H' p vs) ∧ RVs K ρ H xs vs := by
  cases x with
  | lst ys =>
    cases h
    obtain ⟨p, vs, rfl, n, h1, h2⟩ := a
    exact ⟨p, vs, rfl, fun ρ' H' E => SqL.of (E.keep p _ h1 n.2), h2⟩
  | frl ys =>
    cases h
    obtain ⟨p, vs, rfl, h1, h2⟩ := a
    exact ⟨p, vs, rfl, fun ρ' H' E => (h1.mono E).sq, h2⟩
  | _ => cases h
section
variable {X : Cx} {tg e : Expr} {es : List Expr} {pos p : Pos} {da db : DE} {d : DA}
def iLst (da : DE) : DA := fun env m => bindR (da env m) fun x m => match staD x with
  | some xs => some (.ok xs, m)
  | none => none
theorem rdI_E {K : PySem.W.Frag} {W : WX} {f : Vl → Mem → Option (R (List Vl) × Mem)} {σ : L2.St} {H : Hp} {R : It → Hp → Prop} {Q : VK} (h : rdI K W (fun env m => bindR (da env m) f) σ H R)
    (k : ∀ x m1 ρ env xs v H1, S K ρ env m1 σ H1 → RV K ρ H1 x v → f x m1 = some (.ok xs, m1) → (∀ J, ItOk K J ρ H1 xs → R J H1) → Q v H1) (hf : ∀ x m r m', f x m = some (r, m') → (∃ xs, r = .ok xs) ∧ m' = m) : rdE K W da σ H Q := by
  obtain ⟨ρ, env, m, r, m', s, e, p⟩ := h
  have e' : bindR (da env m) f = some (r, m') := e
  unfold bindR at e'
  split at e'
  · cases e'
  · rename_i x m1 h0
    obtain ⟨⟨xs, rfl⟩, rfl⟩ := hf x m1 r m' e'
    exact goE s h0 fun ρ' H' v s' E rv => k x _ ρ' env xs v H' s' rv e' fun J hJ => p ρ' H' s'.mem E J hJ
  · rename_i c fs m1 h0
    cases e'
    exact exE s h0 fun ρ' H' dd s' E r => p ρ' H' s'.mem E dd r
theorem rdI_A {K : PySem.W.Frag} {W : WX} {f : List Vl → Mem → Option (R (List Vl) × Mem)} {σ : L2.St} {H : Hp} {R : It → Hp → Prop} {Q : List V → Hp → Prop} (h : rdI K W (fun env m => bindR (d env m) f) σ H R)
    (k : ∀ x m1 ρ env xs v H1, S K ρ env m1 σ H1 → RVs K ρ H1 x v → f x m1 = some (.ok xs, m1) → (∀ J, ItOk K J ρ H1 xs → R J H1) → Q v H1) (hf : ∀ x m r m', f x m = some (r, m') → (∃ xs, r = .ok xs) ∧ m' = m) : rdA K W d σ H Q := by
  obtain ⟨ρ, env, m, r, m', s, e, p⟩ := h
  have e' : bindR (d env m) f = some (r, m') := e
  unfold bindR at e'
  split at e'
  · cases e'
  · rename_i x m1 h0
    obtain ⟨⟨xs, rfl⟩, rfl⟩ := hf x m1 r m' e'
    exact goA s h0 fun ρ' H' v s' E rv => k x _ ρ' env xs v H' s' rv e' fun J hJ => p ρ' H' s'.mem E J hJ
  · rename_i c fs m1 h0
    cases e'
    exact exA s h0 fun ρ' H' dd s' E r => p ρ' H' s'.mem E dd r
theorem si_list (ha : SE X e da) : SI X tg e (iLst da) := ⟨fun W tk => impPI (pi_list (ha.run W tk)) fun σ H R h =>
  rdI_E (Q := fun x H1 => ∃ a, x = .ref a ∧ (∃ xs, SqL X.K H1 a xs) ∧ R (Itl X.K a) H1) h (fun x m1 ρ env xs v H1 s r e k => by
    split at e
    · rename_i ys hy
      cases e
      obtain ⟨p, vs, rfl, h1, h2⟩ := staD_ok r hy
      exact ⟨p, rfl, ⟨vs, h1 ρ H1 .refl⟩, k _ (itOk_list h1 h2)⟩
    · cases e) fun x m r m' e => by
    split at e
    · cases e
      exact ⟨⟨_, rfl⟩, rfl⟩
    · cases e⟩
def iTupD (da : DE) : DA := fun env m => bindR (da env m) fun x m => match x with
  | .tup xs => some (.ok xs, m)
  | _ => none
theorem si_tup (ha : SE X e da) : SI X tg e (iTupD da) := ⟨fun W tk => impPI (pi_tup (ha.run W tk)) fun σ H R h =>
  rdI_E (Q := fun x H1 => ∃ a, x = .ref a ∧ (∃ xs, SqT X.K H1 a xs) ∧ R (Itt X.K a) H1) h (fun x m1 ρ env xs v H1 s r e k => by
    split at e
    · cases e
      obtain ⟨p, vs, rfl, h1, h2⟩ := r
      exact ⟨p, rfl, ⟨vs, h1.sq⟩, k _ (itOk_tup (fun ρ' H' E => (h1.mono E).sq) h2)⟩
    · cases e) fun x m r m' e => by
    split at e
    · cases e
      exact ⟨⟨_, rfl⟩, rfl⟩
    · cases e⟩
/-- a list or a tuple -/
theorem PI.or {t t' : TI} (h : PI X tg e t) (h' : PI X tg e t') : PI X tg e (fun σ H R => t σ H R ∨ t' σ H R) := ⟨fun pins s σ H R I x => x.elim (fun x => h.run pins s σ H R I x) fun x => h'.run pins s σ H R I x⟩
def iSeqD (da : DE) : DA := fun env m => match da env m with
  | some (.ok (.tup xs), m) => some (.ok xs, m)
  | some (.ok x, m) => (match staD x with
    | some xs => some (.ok xs, m)
    | none => none)
  | some (.ex c fs, m) => some (.ex c fs, m)
  | none => none
theorem si_seq (ha : SE X e da) : SI X tg e (iSeqD da) := ⟨fun W tk => impPI (PI.or (pi_list (ha.run W tk)) (pi_tup (ha.run W tk))) fun σ H R ⟨ρ, env, m, r, m', s, e, p⟩ => by
  unfold iSeqD at e
  split at e
  · rename_i xs m1 h0
    cases e
    refine .inr (goE s h0 fun ρ' H' v s' E rv => ?_)
    obtain ⟨q, vs, rfl, h1, h2⟩ := rv
    exact ⟨q, rfl, ⟨vs, h1.sq⟩, p ρ' H' s'.mem E _ (itOk_tup (fun ρ' H' E => (h1.mono E).sq) h2)⟩
  · rename_i x m1 hne h0
    split at e
    · rename_i ys hy
      cases e
      refine .inl (goE s h0 fun ρ' H' v s' E rv => ?_)
      obtain ⟨q, vs, rfl, h1, h2⟩ := staD_ok rv hy
      exact ⟨q, rfl, ⟨vs, h1 ρ' H' .refl⟩, p ρ' H' s'.mem E _ (itOk_list h1 h2)⟩
    · cases e
  · rename_i c fs m1 h0
    cases e
    exact .inl (exE s h0 fun ρ' H' dd s' E r => p ρ' H' s'.mem E dd r)
  · cases e⟩
def rng1 (xs : List Vl) : Option (List Vl) := match xs with
  | [.int j] => if (decide (-(2 ^ 62) ≤ j) && decide (j < 2 ^ 62)) = true then some (intsZ 0 j.toNat) else none
  | _ => none
def iRg1 (d : DA) : DA := fun env m => bindR (d env m) fun xs m => match rng1 xs with
  | some ys => some (.ok ys, m)
  | none => none
theorem si_range1 {a : Expr} (hg : Gl X "range") (hm : X.mg "range" = none) (ha : SA X [a] d) (hs : starEach [a] X.env = [(false, eval a X.env)] := by rfl) : SI X tg (.Call (.Name "range" p) [a] [] pos) (iRg1 d) := ⟨fun W tk => impPI (pi_range1 hg hm (ha.run W tk) hs) fun σ H R h =>
  rdI_A (Q := fun vs H1 => ∃ j : Int, vs = [.int j] ∧ -(2 ^ 62) ≤ j ∧ j < 2 ^ 62 ∧ R (Itr 0 j.toNat) H1) h (fun x m1 ρ env xs v H1 s r e k => by
    split at e
    · rename_i ys hy
      cases e
      unfold rng1 at hy
      split at hy
      · rename_i j
        split at hy
        · rename_i c
          cases hy
          rw [Bool.and_eq_true, decide_eq_true_eq, decide_eq_true_eq] at c
          obtain ⟨w, vs, rfl, r1, r2⟩ := r
          subst r2
          exact ⟨j, by rw [show w = V.int j from r1], c.1, c.2, k _ itOk_range⟩
        · cases hy
      · cases hy
    · cases e) fun x m r m' e => by
    split at e
    · cases e
      exact ⟨⟨_, rfl⟩, rfl⟩
    · cases e⟩
def rng2 (xs : List Vl) : Option (List Vl) := match xs with
  | [.int i, .int j] => if (decide (-(2 ^ 62) ≤ i) && (decide (i < 2 ^ 62) && (decide (-(2 ^ 62) ≤ j) && decide (j < 2 ^ 62)))) = true then some (intsZ i (j - i).toNat) else none
  | _ => none
def iRg2 (d : DA) : DA := fun env m => bindR (d env m) fun xs m => match rng2 xs with
  | some ys => some (.ok ys, m)
  | none => none
theorem si_range2 {a b : Expr} (hg : Gl X "range") (hm : X.mg "range" = none) (ha : SA X [a, b] d) (hs : starEach [a, b] X.env = [(false, eval a X.env), (false, eval b X.env)] := by rfl) (hs2 : starEach [b] X.env = [(false, eval b X.env)] := by rfl) :
    SI X tg (.Call (.Name "range" p) [a, b] [] pos) (iRg2 d) := ⟨fun W tk => impPI (pi_range2 hg hm (ha.run W tk) hs hs2) fun σ H R h =>
  rdI_A (Q := fun vs H1 => ∃ i j : Int, vs = [.int i, .int j] ∧ (-(2 ^ 62) ≤ i ∧ i < 2 ^ 62 ∧ -(2 ^ 62) ≤ j ∧ j < 2 ^ 62) ∧ R (Itr i (j - i).toNat) H1) h (fun x m1 ρ env xs v H1 s r e k => by
    split at e
    · rename_i ys hy
      cases e
      unfold rng2 at hy
      split at hy
      · rename_i i j
        split at hy
        · rename_i c
          cases hy
          simp only [Bool.and_eq_true, decide_eq_true_eq] at c
          obtain ⟨w, vs, rfl, r1, w2, vs2, rfl, r2, r3⟩ := r
          subst r3
          exact ⟨i, j, by rw [show w = V.int i from r1, show w2 = V.int j from r2], c, k _ itOk_range⟩
        · cases hy
      · cases hy
    · cases e) fun x m r m' e => by
    split at e
    · cases e
      exact ⟨⟨_, rfl⟩, rfl⟩
    · cases e⟩
def iEnm (d : DA) : DA := fun env m => bindR (d env m) fun xs m => match xs with
  | [x] => (match staD x with
    | some ys => some (.ok (enumZ ys), m)
    | none => none)
  | _ => none
theorem si_enum {elts : List Expr} {kk : Nat} {tpos : Pos} (hg : Gl X "enumerate") (hm : X.mg "enumerate" = none) (ha : SA X [e] d) (hs : starEach [e] X.env = [(false, eval e X.env)] := by rfl) :
    SI X (.Tuple elts kk tpos) (.Call (.Name "enumerate" p) [e] [] pos) (iEnm d) := ⟨fun W tk => impPI (pi_enum hg hm (ha.run W tk) hs) fun σ H R h =>
  rdI_A (Q := fun vs H1 => ∃ a xs, vs = [.ref a] ∧ SqL X.K H1 a xs ∧ R (Ite X.K a) H1) h (fun x m1 ρ env xs v H1 s r e k => by
    split at e
    · rename_i y
      split at e
      · rename_i ys hy
        cases e
        obtain ⟨w, vs, rfl, r1, r2⟩ := r
        subst r2
        obtain ⟨q, vs, rfl, h1, h2⟩ := staD_ok r1 hy
        exact ⟨q, vs, rfl, h1 ρ H1 .refl, k _ (itOk_enum h1 h2)⟩
      · cases e
    · cases e) fun x m r m' e => by
    split at e
    · split at e
      · cases e
        exact ⟨⟨_, rfl⟩, rfl⟩
      · cases e
    · cases e⟩
def iZp (d : DA) : DA := fun env m => bindR (d env m) fun xs m => match xs with
  | [x, y] => (match staD x, staD y with
    | some xs, some ys => some (.ok (zipZ xs ys), m)
    | _, _ => none)
  | _ => none
theorem si_zip {e2 : Expr} {elts : List Expr} {kk : Nat} {tpos : Pos} (hg : Gl X "zip") (hm : X.mg "zip" = none) (ha : SA X [e, e2] d)
    (hs : starEach [e, e2] X.env = (false, eval e X.env) :: starEach [e2] X.env := by rfl) (hpl : (backTo pos (starEach [e2] X.env)).any (·.1) = false := by rfl) :
    SI X (.Tuple elts kk tpos) (.Call (.Name "zip" p) [e, e2] [] pos) (iZp d) := ⟨fun W tk => impPI (pi_zip hg hm (ha.run W tk) hs hpl) fun σ H R h =>
  rdI_A (Q := fun vs H1 => ∃ a b xs ys, vs = [.ref a, .ref b] ∧ SqL X.K H1 a xs ∧ SqL X.K H1 b ys ∧ R (Itz X.K a b) H1) h (fun x m1 ρ env xs v H1 s r e k => by
    split at e
    · rename_i y z
      split at e
      · rename_i ys zs hy hz
        cases e
        obtain ⟨w, vs, rfl, r1, w2, vs2, rfl, r2, r3⟩ := r
        subst r3
        obtain ⟨q, vs, rfl, h1, h2⟩ := staD_ok r1 hy
        obtain ⟨q2, vs2, rfl, h3, h4⟩ := staD_ok r2 hz
        exact ⟨q, q2, vs, vs2, rfl, h1 ρ H1 .refl, h3 ρ H1 .refl, k _ (itOk_zip h1 h3 h2 h4)⟩
      · cases e
    · cases e) fun x m r m' e => by
    split at e
    · split at e
      · cases e
        exact ⟨⟨_, rfl⟩, rfl⟩
      · cases e
    · cases e⟩
def chrs (x : Str) : List Vl := x.cps.toList.map fun c => .str ⟨#[c]⟩
def iStrD (da : DE) : DA := fun env m => bindR (da env m) fun x m => match x with
  | .str z => some (.ok (chrs z), m)
  | _ => none
theorem si_str (ha : SE X e da) : SI X tg e (iStrD da) := ⟨fun W tk => impPI (pi_str (ha.run W tk)) fun σ H R h =>
  rdI_E (Q := fun v H1 => ∃ x, v = .str x ∧ R (Its x) H1) h (fun x m1 ρ env xs v H1 s r e k => by
    split at e
    · rename_i z
      cases e
      refine ⟨z, r, k _ fun i ρ' m' H' E M => ⟨fun y hy => ?_, fun hl => ?_⟩⟩
      · unfold chrs at hy
        rw [List.getElem?_map] at hy
        cases q : z.cps.toList[i]? with
        | none =>
          rw [q] at hy
          cases hy
        | some c =>
          rw [q] at hy
          cases hy
          have q' : z.cps[i]? = some c := by rw [← Array.getElem?_toList]; exact q
          refine ⟨(Array.getElem?_eq_some_iff.mp q').1, fun w H2 h2 => ?_⟩
          obtain ⟨rfl, c', h3, rfl⟩ := h2
          rw [q'] at h3
          cases h3
          exact ⟨M, .refl, rfl⟩
      · unfold chrs at hl
        show z.cps.size ≤ i
        simpa using hl
    · cases e) fun x m r m' e => by
    split at e
    · cases e
      exact ⟨⟨_, rfl⟩, rfl⟩
    · cases e⟩
/-! ### for -/
def forL (g : DG) (body : DS) : List Vl → Ev → Mem → Option (Fl × Mem)
  | [], env, m => some (.nx env, m)
  | x :: xs, env, m => match g x env m with
    | some (env1, m1) => (match body env1 m1 with
      | some (.nx env2, m2) => forL g body xs env2 m2
      | some (.ct env2, m2) => forL g body xs env2 m2
      | some (.bk env2, m2) => some (.nx env2, m2)
      | r => r)
    | none => none
def dFor (d : DA) (g : DG) (body : DS) : DS := fun env m => bindS (d env m) env fun xs m => forL g body xs env m
theorem ss_for {body : List Stmt} {g : DG} {db : DS} (hp : PassesOwn (model X.prog X.w) X.A X.env X.xe) (hc : X.calm = true) (hi : SI X tg e d) (hg : SG X tg g) (hb : SSs X body db)
    (hs : ∀ x, foldedSetIterable e X.env x = pure x := by intro _; rfl) : SS X (.For tg e body [] pos) (dFor d g db) := ⟨fun W tk =>
  impPS (ps_for hp hc (hi.run W tk) (hg.run W tk) (hb.run W tk) hs) fun D σ H ⟨ρ, env, m, f, m', s, e, p⟩ => by
    unfold dFor bindS at e
    split at e
    · cases e
    · rename_i xs m1 h0
      refine ⟨ρ, env, m, _, _, s, h0, fun ρ1 H1 M1 E1 J hJ => ?_⟩
      refine ⟨fun i k σ' H' => k + i = xs.length ∧ ∃ ρ' env' m2, S X.K ρ' env' m2 σ' H' ∧ Ext ρ1 H1 ρ' H' ∧ forL g db (xs.drop i) env' m2 = some (f, m'), ⟨xs.length, rfl, ρ1, env, m1, ⟨M1, s.env.mono E1⟩, .refl, e⟩, fun i k σ' H' ⟨hk, ρ', env', m2, s', E', e'⟩ => ?_⟩
      obtain ⟨j1, j2⟩ := hJ i ρ' m2 H' E' s'.mem
      cases k with
      | zero =>
        refine .inl ⟨j2 (by omega), ?_⟩
        rw [List.drop_of_length_le (by omega)] at e'
        cases e'
        exact p ρ' H' s'.mem (E1.trans E') σ' s'.env
      | succ k =>
        have hi : i < xs.length := by omega
        obtain ⟨j3, j4⟩ := j1 xs[i] (by simp [hi])
        refine .inr ⟨j3, fun σ2 H2 => k + (i + 1) = xs.length ∧ ∃ ρ' env' m2, S X.K ρ' env' m2 σ2 H2 ∧ Ext ρ1 H1 ρ' H2 ∧ forL g db (xs.drop (i + 1)) env' m2 = some (f, m'), fun σ2 H2 h2 => ⟨k, Nat.lt_succ_self k, h2⟩, fun v H2 hy => ?_⟩
        obtain ⟨M2, E2, r2⟩ := j4 v H2 hy
        rw [List.drop_eq_getElem_cons hi] at e'
        unfold forL at e'
        split at e'
        · rename_i env1 m3 hg'
          refine ⟨ρ', env', m2, xs[i], env1, m3, s'.to E2 M2, r2, hg', fun ρ3 H3 σ3 s3 E3 => ?_⟩
          have E4 := (E'.trans E2).trans E3
          split at e'
          · rename_i env2 m4 hb'
            exact ⟨ρ3, env1, m3, _, _, s3, hb', fun ρ4 H4 M4 E5 σ4 r4 => ⟨by omega, ρ4, env2, m4, ⟨M4, r4⟩, E4.trans E5, e'⟩⟩
          · rename_i env2 m4 hb'
            exact ⟨ρ3, env1, m3, _, _, s3, hb', fun ρ4 H4 M4 E5 σ4 r4 => ⟨by omega, ρ4, env2, m4, ⟨M4, r4⟩, E4.trans E5, e'⟩⟩
          · rename_i env2 m4 hb'
            cases e'
            exact ⟨ρ3, env1, m3, _, _, s3, hb', fun ρ4 H4 M4 E5 σ4 r4 => p ρ4 H4 M4 (E1.trans (E4.trans E5)) σ4 r4⟩
          · rename_i r0 n1 n2 n3
            refine ⟨ρ3, env1, m3, f, m', s3, e', fun ρ4 H4 M4 E5 => ?_⟩
            have pp := p ρ4 H4 M4 (E1.trans (E4.trans E5))
            cases f with
            | rt v => exact pp
            | ex c fs env2 => exact pp
            | nx env2 => exact absurd e' (n1 env2 m')
            | ct env2 => exact absurd e' (n2 env2 m')
            | bk env2 => exact absurd e' (n3 env2 m')
        · cases e'
    · rename_i c fs m1 h0
      cases e
      exact ⟨ρ, env, m, _, _, s, h0, fun ρ' H' M E dd x => p ρ' H' M E σ (s.env.mono E) dd x⟩⟩
end
end Z
namespace Z
open PySem PySem.Spec PyProof.Rows L2
/-! ### list comprehensions -/
theorem takesF {X : Cx} : Takes X (fun _ _ _ _ => False) := fun u s' ⟨_, _, _, _, _, _, _, _, _, _, _, _, _, _, _, _, q⟩ => q.elim
def wipeE (env : Ev) : List Nat → Ev
  | [] => env
  | v :: vs => (wipeE env vs).set v none
theorem RE.wipe {K : PySem.W.Frag} {ρ : Lay} {H : Hp} {env : Ev} {σ : L2.St} (h : RE K ρ H env σ) : ∀ vs : List Nat, RE K ρ H (wipeE env vs) (L2.wipe σ vs)
  | [] => h
  | _ :: vs => (RE.wipe h vs).unset
theorem wipe_set {σ : L2.St} {i : Nat} {o : Option V} : ∀ {vs : List Nat}, i ∈ vs → L2.wipe (σ.set i o) vs = L2.wipe σ vs
  | [], h => by simp at h
  | v :: vs, h => by
    unfold L2.wipe
    by_cases q : i ∈ vs
    · rw [wipe_set q]
    · have e : i = v := by
        rcases List.mem_cons.mp h with e | e
        · exact e
        · exact absurd e q
      subst e
      have key : ∀ (ws : List Nat), i ∉ ws → L2.wipe (σ.set i o) ws = (L2.wipe σ ws).set i o := by
        intro ws
        induction ws with
        | nil => intro _; rfl
        | cons w ws ih =>
          intro hn
          simp only [List.mem_cons, not_or] at hn
          unfold L2.wipe
          rw [ih hn.2, List.set_comm _ _ hn.1]
      rw [key vs q, List.set_set]
theorem wipe_wipe {σ : L2.St} : ∀ {vs ws : List Nat}, (∀ i ∈ vs, i ∈ ws) → L2.wipe (L2.wipe σ vs) ws = L2.wipe σ ws
  | [], _, _ => rfl
  | v :: vs, ws, h => by
    show L2.wipe ((L2.wipe σ vs).set v none) ws = _
    rw [wipe_set (h v List.mem_cons_self), wipe_wipe fun i hi => h i (List.mem_cons_of_mem _ hi)]
/-- targets of a block's own names, at the slots vs -/
abbrev DGc := Vl → Ev → Option Ev
def rdGc (K : PySem.W.Frag) (d : DGc) (vs : List Nat) : TG := fun v σ H Q => ∃ ρ env m x env', S K ρ env m σ H ∧ RV K ρ H x v ∧ d x env = some env' ∧ ∀ σ', S K ρ env' m σ' H → L2.wipe σ' vs = L2.wipe σ vs → Q σ' H
structure SGc (X : Cx) (t : Expr) (d : DGc) (vs : List Nat) : Prop where
  run : PG X t (rdGc X.K d vs)
def rdGcs (K : PySem.W.Frag) (d : List Vl → Ev → Option Ev) (vs : List Nat) : TGs := fun us σ H Q => ∃ ρ env m xs env', S K ρ env m σ H ∧ RVs K ρ H xs us ∧ d xs env = some env' ∧ ∀ σ', S K ρ env' m σ' H → L2.wipe σ' vs = L2.wipe σ vs → Q σ' H
structure SGcs (X : Cx) (ts : List Expr) (d : List Vl → Ev → Option Ev) (vs : List Nat) : Prop where
  run : PGs X ts (rdGcs X.K d vs)
section
variable {X : Cx} {pos : Pos} {vs : List Nat}
def gcVar (i : Nat) : DGc := fun x env => some (env.set i (some x))
theorem sgc_name {i : Nat} {x : Str} (hN : X.N.Nodup) (hi : X.N[i]? = some x) (hx : Loc X.env.scope x) (hv : i ∈ vs := by decide) (hf : X.fn x = true ∨ X.env.scope.names.lookup x = some .local := by first | exact .inl rfl | exact .inr rfl | assumption) : SGc X (.Name x pos) (gcVar i) vs :=
  ⟨impPG (pg_name hN hi hx hf) fun v σ H Q ⟨ρ, env, m, x, env', s, r, e, p⟩ => by
    cases e
    exact p _ ⟨s.mem, s.env.set r⟩ (wipe_set hv)⟩
def gcsNil : List Vl → Ev → Option Ev := fun xs env => match xs with
  | [] => some env
  | _ => none
def gcsCons (d : DGc) (ds : List Vl → Ev → Option Ev) : List Vl → Ev → Option Ev := fun xs env => match xs with
  | x :: r => (match d x env with
    | some env1 => ds r env1
    | none => none)
  | [] => none
theorem sgcs_nil : SGcs X [] gcsNil vs := ⟨impPGs pgs_nil fun v σ H Q ⟨ρ, env, m, xs, env', s, r, e, p⟩ => by
  cases xs with
  | nil =>
    cases e
    exact ⟨r, p _ s rfl⟩
  | cons x xs => cases e⟩
theorem sgcs_cons {t : Expr} {ts : List Expr} {dg : DGc} {ds : List Vl → Ev → Option Ev} (h1 : SGc X t dg vs) (h2 : SGcs X ts ds vs)
    (hs : (assignEach (t :: ts) X.env).map (·.2) = assign t X.env :: (assignEach ts X.env).map (·.2) := by rfl) : SGcs X (t :: ts) (gcsCons dg ds) vs := ⟨impPGs (pgs_cons h1.run h2.run hs) fun v σ H Q ⟨ρ, env, m, xs, env', s, r, e, p⟩ => by
  cases xs with
  | nil => cases e
  | cons x xs =>
    obtain ⟨v, us, rfl, r1, r2⟩ := r
    cases h : dg x env with
    | none =>
      simp only [gcsCons, h] at e
      cases e
    | some env1 =>
      simp only [gcsCons, h] at e
      exact ⟨v, us, rfl, ρ, env, m, x, env1, s, r1, h, fun σ' s' w' => ⟨ρ, env1, m, xs, env', s', r2, e, fun σ2 s2 w2 => p σ2 s2 (w2.trans w')⟩⟩⟩
def gcTup (ds : List Vl → Ev → Option Ev) : DGc := fun x env => match x with
  | .tup xs => ds xs env
  | _ => none
def GcsLen (ds : List Vl → Ev → Option Ev) (n : Nat) : Prop := ∀ xs env r, ds xs env = some r → xs.length = n
theorem gcl_nil : GcsLen gcsNil 0 := fun xs env r h => by
  cases xs with
  | nil => rfl
  | cons x xs => cases h
theorem gcl_cons {dg : DGc} {ds : List Vl → Ev → Option Ev} {n : Nat} (h : GcsLen ds n) : GcsLen (gcsCons dg ds) (n + 1) := fun xs env r e => by
  cases xs with
  | nil => cases e
  | cons x xs =>
    cases q : dg x env with
    | none =>
      simp only [gcsCons, q] at e
      cases e
    | some z =>
      simp only [gcsCons, q] at e
      rw [List.length_cons, h _ _ _ e]
theorem sgc_tup {es : List Expr} {k n : Nat} {ds : List Vl → Ev → Option Ev} (hc : X.calm = true) (h : SGcs X es ds vs) (hl : GcsLen ds n)
    (hn : (assignEach es X.env).length = n := by rfl) (hst : (assignEach es X.env).findIdx? (·.1) = none := by rfl) : SGc X (.Tuple es k pos) (gcTup ds) vs := ⟨impPG (pg_tup hc h.run hn hst) fun v σ H Q ⟨ρ, env, m, x, env', s, r, e, p⟩ => by
  unfold gcTup at e
  split at e
  · rename_i xs
    obtain ⟨a, us, rfl, h2, h3⟩ := r
    exact ⟨a, us, rfl, h2.sq, by rw [← h3.length]; exact hl _ _ _ e, ρ, env, m, xs, env', s, h3, e, p⟩
  · cases e⟩
/-- the tests of a comprehension -/
structure STs (X : Cx) (ifs : List Expr) (d : DT) : Prop where
  run : ∀ W, Takes X W → PTs X ifs (rdT X.K W d)
def dYes : DT := fun _ m => some (.ok true, m)
theorem impPTs {ifs : List Expr} {t t' : TT} (h : PTs X ifs t) (q : ∀ σ H Q, t' σ H Q → t σ H Q) : PTs X ifs t' := ⟨fun pins s σ H Q I x => h.run pins s σ H Q I (q σ H Q x)⟩
theorem sts_nil : STs X [] dYes := ⟨fun W tk => impPTs pts_nil fun σ H Q ⟨ρ, env, m, z, m', s, e, p⟩ => by
  cases e
  exact p ρ H s.mem .refl true rfl⟩
theorem sts_one {e : Expr} {dt : DT} (h : ST X e dt) : STs X [e] dt := ⟨fun W tk => pts_one (h.run W tk)⟩
/-! a list that nobody knows is changed -/
theorem ne_mem {l : List Addr} {a p : Addr} (h : a ∈ l) (n : p ∉ l) : a ≠ p := fun e => n (by rw [← e]; exact h)
section
variable {K : PySem.W.Frag} {ρ : Lay} {H : Hp} {p : Addr} {us ws : List V}
mutual
theorem RV.priv (nc : p ∉ ρ.c) (nz : p ∉ ρ.z) (hp : H p = some (.lst us)) : ∀ (x : Vl) {v : V}, RV K ρ H x v → RV K ρ (upd H p (.lst ws)) x v
  | .non, _, h => h
  | .bl _, _, h => h
  | .int _, _, h => h
  | .str _, _, h => h
  | .ty _, _, h => h
  | .glo _, _, h => h
  | .tup xs, _, ⟨a, vs, h1, h2, h3⟩ => ⟨a, vs, h1, h2.elim (fun h => .inl ⟨h.1, by
      have ne : ∀ {u : HO}, H a = some u → (∀ zs, u ≠ .lst zs) → upd H p (.lst ws) a = some u := fun {u} e hu => by
        rw [upd_ne (fun q => by subst q; rw [hp] at e; cases e; exact hu _ rfl)]
        exact e
      rcases h.2 with h | ⟨o, h⟩
      · exact .inl (ne h fun _ q => nomatch q)
      · exact .inr ⟨o, ne h fun _ q => nomatch q⟩⟩) .inr, RVs.priv nc nz hp xs h3⟩
  | .lst xs, _, ⟨a, vs, h1, n, h2, h3⟩ => ⟨a, vs, h1, n, by rw [upd_ne (ne_mem n.1 nz)]; exact h2, RVs.priv nc nz hp xs h3⟩
  | .frl xs, _, ⟨a, vs, h1, h2, h3⟩ => ⟨a, vs, h1, h2.elim (fun h => .inl ⟨h.1, by
      obtain ⟨o, h⟩ := h.2
      refine ⟨o, ?_⟩
      rw [upd_ne (fun q => by subst q; rw [hp] at h; cases h)]
      exact h⟩) .inr, RVs.priv nc nz hp xs h3⟩
  | .dic xs, _, ⟨a, vs, h1, n, h2, h3⟩ => ⟨a, vs, h1, n, by rw [upd_ne (ne_mem n.1 nz)]; exact h2, RKs.priv nc nz hp xs h3⟩
  | .dit xs, _, ⟨a, vs, h1, n, h2, h3⟩ => ⟨a, vs, h1, n, by rw [upd_ne (ne_mem n.1 nz)]; exact h2, RTs.priv nc nz hp xs h3⟩
  | .ins c fs, _, ⟨a, dx, gs, h1, n, h2, h3⟩ => ⟨a, dx, gs, h1, n, by rw [upd_ne (ne_mem n.1 nz)]; exact h2, RFs.priv nc nz hp fs h3⟩
  | .obj n, _, h => h
  | .err _ fs, _, ⟨a, d, gs, h1, n, h2, h3, h4⟩ => ⟨a, d, gs, h1, n, by rw [upd_ne (fun q => by subst q; rw [hp] at h2; cases h2)]; exact h2, h3.elim (fun ⟨dd, q1, q2, q3⟩ => .inl ⟨dd, q1, q2, by rw [upd_ne (fun q => by subst q; rw [hp] at q3; cases q3)]; exact q3⟩) .inr, RFs.priv nc nz hp fs h4⟩
theorem RVs.priv (nc : p ∉ ρ.c) (nz : p ∉ ρ.z) (hp : H p = some (.lst us)) : ∀ (xs : List Vl) {vs : List V}, RVs K ρ H xs vs → RVs K ρ (upd H p (.lst ws)) xs vs
  | [], _, h => h
  | x :: xs, _, ⟨v, r, h1, h2, h3⟩ => ⟨v, r, h1, RV.priv nc nz hp x h2, RVs.priv nc nz hp xs h3⟩
theorem RKs.priv (nc : p ∉ ρ.c) (nz : p ∉ ρ.z) (hp : H p = some (.lst us)) : ∀ (xs : List (Key × Vl)) {vs : List (Key × V)}, RKs K ρ H xs vs → RKs K ρ (upd H p (.lst ws)) xs vs
  | [], _, h => h
  | (k, x) :: xs, _, ⟨v, r, h1, h2, h3⟩ => ⟨v, r, h1, RV.priv nc nz hp x h2, RKs.priv nc nz hp xs h3⟩
theorem RTs.priv (nc : p ∉ ρ.c) (nz : p ∉ ρ.z) (hp : H p = some (.lst us)) : ∀ (xs : List (List Key × Vl)) {vs : List (List Key × V)}, RTs K ρ H xs vs → RTs K ρ (upd H p (.lst ws)) xs vs
  | [], _, h => h
  | (k, x) :: xs, _, ⟨v, r, h1, h2, h3⟩ => ⟨v, r, h1, RV.priv nc nz hp x h2, RTs.priv nc nz hp xs h3⟩
theorem RFs.priv (nc : p ∉ ρ.c) (nz : p ∉ ρ.z) (hp : H p = some (.lst us)) : ∀ (xs : List (Str × Vl)) {vs : List (Str × V)}, RFs K ρ H xs vs → RFs K ρ (upd H p (.lst ws)) xs vs
  | [], _, h => h
  | (k, x) :: xs, _, ⟨v, r, h1, h2, h3⟩ => ⟨v, r, h1, RV.priv nc nz hp x h2, RFs.priv nc nz hp xs h3⟩
end
theorem RC.priv {a : Addr} (ha : a ∈ ρ.c) (nc : p ∉ ρ.c) (nz : p ∉ ρ.z) (hp : H p = Option.some (.lst us)) : ∀ {c : Cell}, RC K ρ H a c → RC K ρ (upd H p (.lst ws)) a c
  | .lst xs, ⟨vs, h1, h2⟩ => ⟨vs, by rw [upd_ne (ne_mem ha nc)]; exact h1, RVs.priv nc nz hp xs h2⟩
  | .dic xs, ⟨vs, h1, h2⟩ => ⟨vs, by rw [upd_ne (ne_mem ha nc)]; exact h1, RKs.priv nc nz hp xs h2⟩
  | .dit xs, ⟨vs, h1, h2⟩ => ⟨vs, by rw [upd_ne (ne_mem ha nc)]; exact h1, RTs.priv nc nz hp xs h2⟩
  | .ins _ xs, ⟨dx, vs, h1, h2⟩ => ⟨dx, vs, by rw [upd_ne (ne_mem ha nc)]; exact h1, RFs.priv nc nz hp xs h2⟩
theorem S.priv {env : Ev} {m : Mem} {σ : L2.St} (s : S K ρ env m σ H) (nc : p ∉ ρ.c) (nz : p ∉ ρ.z) (hp : H p = some (.lst us)) : S K ρ env m σ (upd H p (.lst ws)) :=
  ⟨⟨s.mem.nd, s.mem.len, fun n c a h1 h2 => (s.mem.at_ n c a h1 h2).priv (List.mem_of_getElem? h2) nc nz hp, fun a ha => ⟨(s.mem.zt a ha).1, let ⟨_, e⟩ := (s.mem.zt a ha).2; upd_stay e⟩⟩,
    s.env.1, fun i x e => let ⟨v, h1, h2⟩ := s.env.2 i x e; ⟨v, h1, h2.priv nc nz hp⟩⟩
theorem Ext.priv {ρ0 : Lay} {H0 : Hp} (E : Ext ρ0 H0 ρ H) (hn : H0 p = Option.none) : Ext ρ0 H0 ρ (upd H p (.lst ws)) :=
  ⟨E.pre, E.zin, fun a o e n => by rw [upd_ne (ne_of_none e hn)]; exact E.keep a o e n, fun a o e => let ⟨o', h⟩ := E.stay a o e; upd_stay h, E.oldc, E.oldz⟩
end
/-- the values that the turns give -/
def lcZ (g : DGc) (dt : DT) (de : DE) (env : Ev) : List Vl → Mem → Option (List Vl × Mem)
  | [], m => some ([], m)
  | x :: xs, m => match g x env with
    | some env1 => (match dt env1 m with
      | some (.ok true, m1) => (match de env1 m1 with
        | some (.ok y, m2) => (match lcZ g dt de env xs m2 with
          | some (ys, m3) => some (y :: ys, m3)
          | none => none)
        | _ => none)
      | some (.ok false, m1) => lcZ g dt de env xs m1
      | _ => none)
    | none => none
def dLc (di : DA) (g : DGc) (dt : DT) (de : DE) (vs : List Nat) : DA := fun env m => bindR (di env m) fun xs m => if xs.length ≤ sizeLine then okR (lcZ g dt de (wipeE env vs) xs m) else none
def FE : WX := fun _ _ _ _ => False
theorem tLc_of {K : PySem.W.Frag} {W : WX} {di : DA} {g : DGc} {dt : DT} {de : DE} {σ : L2.St} {H : Hp} {Q : VK} (h : rdL K W (dLc di g dt de vs) σ H Q) : tLc (rdI K W di) (rdGc K g vs) (rdT K FE dt) (rdE K FE de) vs σ H Q := by
  obtain ⟨ρ, env, m, r, m', s, e, p⟩ := h
  unfold dLc at e
  unfold bindR at e
  split at e
  · cases e
  · rename_i xs m1 h0
    dsimp only at e
    split at e
    · rename_i hz
      refine ⟨ρ, env, m, _, _, s, h0, fun ρ1 H1 M1 E1 J hJ D hD => ?_⟩
      obtain ⟨ys, h2, rfl⟩ := okR_some e
      have oc := M1.fresh hD
      have oz := M1.freshz hD
      refine ⟨fun i k H' => k + i = xs.length ∧ ∃ ρ' m2 acc accv rest, S K ρ' (wipeE env vs) m2 (L2.wipe σ vs) H' ∧ Ext ρ1 H1 ρ' H' ∧ H' D = some (.lst accv) ∧ D ∉ ρ'.c ∧ D ∉ ρ'.z ∧ acc.length ≤ i ∧ RVs K ρ' H' acc accv ∧ lcZ g dt de (wipeE env vs) (xs.drop i) m2 = some (rest, m') ∧ ys = acc ++ rest,
        ⟨xs.length, rfl, ρ1, m1, [], [], ys, ⟨M1.laid hD, (s.env.mono (E1.trans (ext_new hD))).wipe vs⟩, ext_new hD, upd_same, oc, oz, Nat.le_refl _, rfl, h2, rfl⟩, fun i k H' ⟨hk, ρ', m2, acc, accv, rest, s', E', hD', nc, nz, hacc, ra, hl, hy⟩ => ?_⟩
      obtain ⟨j1, j2⟩ := hJ i ρ' m2 H' E' s'.mem
      cases k with
      | zero =>
        refine .inl ⟨j2 (by omega), ?_⟩
        rw [List.drop_of_length_le (by omega)] at hl
        cases hl
        refine p ρ' H' s'.mem (E1.trans E') _ ⟨D, accv, rfl, ⟨nc, nz, E1.none hD⟩, hD', by rw [← ra.length]; omega, ?_⟩
        rw [hy, List.append_nil]
        exact ra
      | succ k =>
        have hi : i < xs.length := by omega
        obtain ⟨j3, j4⟩ := j1 xs[i] (by simp [hi])
        refine .inr ⟨j3, fun H2 => k + (i + 1) = xs.length ∧ ∃ ρ' m2 acc accv rest, S K ρ' (wipeE env vs) m2 (L2.wipe σ vs) H2 ∧ Ext ρ1 H1 ρ' H2 ∧ H2 D = some (.lst accv) ∧ D ∉ ρ'.c ∧ D ∉ ρ'.z ∧ acc.length ≤ i + 1 ∧ RVs K ρ' H2 acc accv ∧ lcZ g dt de (wipeE env vs) (xs.drop (i + 1)) m2 = some (rest, m') ∧ ys = acc ++ rest, fun H2 h2 => ⟨k, Nat.lt_succ_self k, h2⟩, fun v H2 hyl => ?_⟩
        obtain ⟨M2, E2, r2⟩ := j4 v H2 hyl
        rw [List.drop_eq_getElem_cons hi] at hl
        unfold lcZ at hl
        split at hl
        · rename_i env1 hg
          refine ⟨ρ', _, m2, xs[i], env1, s'.to E2 M2, r2, hg, fun σ3 s3 w3 => ⟨w3.trans (wipe_wipe fun _ h => h), ?_⟩⟩
          have hD2 : H2 D = some (.lst accv) := E2.keep D _ hD' nc
          have back : ∀ {ρ4 : Lay} {m4 : Mem} {H4 : Hp}, Ext ρ' H2 ρ4 H4 → RM K ρ4 m4 H4 → S K ρ4 (wipeE env vs) m4 (L2.wipe σ vs) H4 := fun E4 M4 => s'.to (E2.trans E4) M4
          split at hl
          · rename_i m4 ht
            refine goT s3 ht fun ρ4 H4 s4 E4 => ?_
            show rdE K FE de σ3 H4 _
            split at hl
            · rename_i y m5 he
              refine goE s4 he fun ρ5 H5 u s5 E5 ru => ?_
              split at hl
              · rename_i zs m6 hr
                cases hl
                have E45 := E4.trans E5
                have hD5 : H5 D = some (.lst accv) := E45.keep D _ hD2 nc
                have nc5 : D ∉ ρ5.c := E45.out hD2 nc
                have nz5 : D ∉ ρ5.z := E45.outz hD2 nz
                refine ⟨accv, hD5, by rw [← ra.length]; omega, by omega, ρ5, m5, acc ++ [y], accv ++ [u], zs, ?_⟩
                -- the list grows: nobody knows it
                have sb := back E45 s5.mem
                refine ⟨sb.priv nc5 nz5 hD5, ((E'.trans E2).trans E45).priv hD, upd_same, nc5, nz5, by rw [List.length_append]; show acc.length + 1 ≤ _; omega, ?_, hr, by rw [hy, List.append_assoc]; rfl⟩
                exact RVs.priv nc5 nz5 hD5 _ ((ra.mono (E2.trans E45)).append ⟨u, [], rfl, ru, rfl⟩)
              · cases hl
            · cases hl
          · rename_i m4 ht
            refine goT s3 ht fun ρ4 H4 s4 E4 => ?_
            show _ ∧ _
            refine ⟨by omega, ρ4, m4, acc, accv, rest, back E4 s4.mem, (E'.trans E2).trans E4, E4.keep D _ hD2 nc, E4.out hD2 nc, E4.outz hD2 nz, by omega, ra.mono (E2.trans E4), hl, hy⟩
          · cases hl
        · cases hl
    · cases e
  · rename_i c fs m1 h0
    cases e
    exact ⟨ρ, env, m, _, _, s, h0, fun ρ' H' M E dd x => p ρ' H' M E dd x⟩
/-- [e for x in xs if t]: a new list -/
theorem sl_lc {elt tg iter : Expr} {ifs : List Expr} {scope : Scope} {own : List (Str × Nat)} {di : DA} {g : DGc} {dt : DT} {de : DE} (hc : X.calm = true) (hN : X.N.Nodup) (hi : SI X tg iter di) (ok : BlkOk X.N X.env.scope scope own)
    (hg : ∀ (s : Shared) (H : Hp) (C : Addr) (cl : List (Str × Addr)) (fp : List Addr), SGc (X.blk s H scope (compEnvC scope cl C X.env) fp) tg g (own.map (·.2))) (ht : ∀ (s : Shared) (H : Hp) (C : Addr) (cl : List (Str × Addr)) (fp : List Addr), STs (X.blk s H scope (compEnvC scope cl C X.env) fp) ifs dt)
    (he : ∀ (s : Shared) (H : Hp) (C : Addr) (cl : List (Str × Addr)) (fp : List Addr), SE (X.blk s H scope (compEnvC scope cl C X.env) fp) elt de) (hs : ∀ x, foldedSetIterable iter X.env x = pure x := by intro _; rfl) :
    SL X (.ListComp elt [⟨tg, iter, ifs, 0⟩] scope pos) (dLc di g dt de (own.map (·.2))) := ⟨fun W tk =>
  impPE (pe_lc hc hN (hi.run W tk) ok (fun s H C cl fp => (hg s H C cl fp).run) (fun s H C cl fp => (ht s H C cl fp).run FE takesF) (fun s H C cl fp => (he s H C cl fp).run FE takesF) hs) fun σ H Q h => tLc_of h⟩
/-- y = [..] of one line -/
def dAsgL (i : Nat) (cell : Bool) (d : DA) : DS := fun env m => bindS (d env m) env fun xs m => if cell = true then some (.nx (env.set i (some (.obj m.length))), m ++ [.lst xs]) else some (.nx (env.set i (some (.lst xs))), m)
theorem ss_setLc {i : Nat} {y : Str} {py spos : Pos} {cell : Bool} {elt tg iter : Expr} {ifs : List Expr} {scope : Scope} {own : List (Str × Nat)} {di : DA} {g : DGc} {dt : DT} {de : DE} (hc : X.calm = true) (hN : X.N.Nodup) (hy : X.N[i]? = some y) (hyl : X.env.scope.names.lookup y = some .local)
    (hsw : swapsWith (.ListComp elt [⟨tg, iter, ifs, 0⟩] scope pos) (some (.Name y py)) spos.line X.env = pure true) (hi : SI X tg iter di) (ok : BlkOk X.N X.env.scope scope own)
    (hg : ∀ (s : Shared) (H : Hp) (C : Addr) (cl : List (Str × Addr)) (fp : List Addr), SGc (X.blk s H scope (compEnvC scope cl C X.env) fp) tg g (own.map (·.2))) (ht : ∀ (s : Shared) (H : Hp) (C : Addr) (cl : List (Str × Addr)) (fp : List Addr), STs (X.blk s H scope (compEnvC scope cl C X.env) fp) ifs dt)
    (he : ∀ (s : Shared) (H : Hp) (C : Addr) (cl : List (Str × Addr)) (fp : List Addr), SE (X.blk s H scope (compEnvC scope cl C X.env) fp) elt de) (hs : ∀ x, foldedSetIterable iter X.env x = pure x := by intro _; rfl) :
    SS X (.Assign [.Name y py] (.ListComp elt [⟨tg, iter, ifs, 0⟩] scope pos) spos) (dAsgL i cell (dLc di g dt de (own.map (·.2)))) := ⟨fun W tk =>
  impPS (ps_setLc hc hN hy hyl hsw (hi.run W tk) ok (fun s H C cl fp => (hg s H C cl fp).run) (fun s H C cl fp => (ht s H C cl fp).run FE takesF) (fun s H C cl fp => (he s H C cl fp).run FE takesF) hs) fun D σ H ⟨ρ, env, m, f, m', s, e, p⟩ => by
    refine tLc_of (W := W) (g := g) (dt := dt) (de := de) ?_
    unfold dAsgL bindS at e
    split at e
    · cases e
    · rename_i xs m1 h0
      refine goL s h0 fun ρ' H' a vs s' E w h3 h4 r => ?_
      show D.nx (σ.set i (some (.ref a))) H'
      cases cell with
      | true =>
        dsimp only at e
        rw [if_pos rfl] at e
        cases e
        have s2 := s'.cel (c := .lst xs) w.c w.z h3 rfl ⟨vs, h3, r⟩
        exact p _ H' s2.mem (E.toCel w) _ (s2.env.set ⟨a, rfl, by
          show (ρ'.c ++ [a])[m1.length]? = some a
          rw [← s'.mem.len]
          simp⟩)
      | false =>
        dsimp only at e
        rw [if_neg (by decide)] at e
        cases e
        have s2 := s'.frz w.c h3
        exact p _ H' s2.mem (E.toFrz w) _ (s2.env.set ⟨a, vs, rfl, ⟨mem_frz.mpr (.inr rfl), w.c⟩, h3, r.frz w.c⟩)
    · rename_i c fs m1 h0
      cases e
      exact exL s h0 fun ρ' H' dd s' E r => p ρ' H' s'.mem E σ s'.env dd r⟩
end
end Z
namespace Z
open PySem PySem.Spec PyProof.Rows L2
/-! ### built-ins by values -/
abbrev FB := List Vl → Mem → Option (Vl × Mem)
def orB (f g : FB) : FB := fun xs m => match f xs m with
  | some r => some r
  | none => g xs m
def SCF (K : PySem.W.Frag) (f : FB) (r : List V → Hp → VK → Prop) : Prop := ∀ (ρ : Lay) (m : Mem) (H : Hp) (xs : List Vl) (vs : List V) (z : Vl) (m' : Mem) (Q : VK), RM K ρ m H → RVs K ρ H xs vs → f xs m = some (z, m') →
  (∀ ρ' H' w, RM K ρ' m' H' → Ext ρ H ρ' H' → RV K ρ' H' z w → Q w H') → r vs H Q
def dB (f : FB) (d : DA) : DE := fun env m => bindR (d env m) fun xs m => okR (f xs m)
section
variable {X : Cx} {x : Str} {p pos apos : Pos} {e o : Expr} {es : List Expr} {d : DA} {de : DE} {id T : String} {r r' : List V → Hp → VK → Prop} {f g : FB} {name : Str}
theorem scf_or {K : PySem.W.Frag} (h : SCF K f r) (h' : SCF K g r') : SCF K (orB f g) (fun xs H Q => r xs H Q ∨ r' xs H Q) := fun ρ m H xs vs z m' Q M a e k => by
  unfold orB at e
  split at e
  · rename_i q hq
    cases e
    exact .inl (h ρ m H xs vs z m' Q M a hq k)
  · exact .inr (h' ρ m H xs vs z m' Q M a e k)
theorem tCB_of {W : WX} {K : PySem.W.Frag} (hf : SCF K f r) {σ : L2.St} {H : Hp} {Q : VK} (h : rdE K W (dB f d) σ H Q) : tCB r (rdA K W d) σ H Q := by
  obtain ⟨ρ, env, m, z, m', s, e, p⟩ := h
  exact bindA s e p fun xs m1 ρ1 H1 vs s1 E1 r1 e1 p1 => by
    obtain ⟨w, h1, rfl⟩ := okR_some e1
    exact hf ρ1 m1 H1 xs vs w m' Q s1.mem r1 h1 fun ρ' H' u M E r => p1 ρ' H' M E u r
theorem se_callB (hc : CallR X (.builtin id) r) (hf : SCF X.K f r) (hg : Gl X x) (hm : X.mg x = none) (hv : bootBuiltins x = some (.builtin id)) (ha : SA X (e :: es) d) (hn : x ≠ "__name__" := by decide) (hdb : (x == ("__debug__" : Str)) = false := by decide)
    (he : starEach (e :: es) X.env = (false, eval e X.env) :: starEach es X.env := by rfl) (hpl : (backTo pos (starEach es X.env)).any (·.1) = false := by rfl) : SE X (.Call (.Name x p) (e :: es) [] pos) (dB f d) := ⟨fun W tk =>
  impPE (pe_callB hc hg hm hv (ha.run W tk) hn hdb he hpl) fun σ H Q h => tCB_of hf h⟩
theorem se_callTy (hc : CallR X (.type T) r) (hf : SCF X.K f r) (hg : Gl X x) (hm : X.mg x = none) (hv : bootBuiltins x = some (.type T)) (ha : SA X (e :: es) d) (hn : x ≠ "__name__" := by decide) (hdb : (x == ("__debug__" : Str)) = false := by decide)
    (he : starEach (e :: es) X.env = (false, eval e X.env) :: starEach es X.env := by rfl) (hpl : (backTo pos (starEach es X.env)).any (·.1) = false := by rfl) : SE X (.Call (.Name x p) (e :: es) [] pos) (dB f d) := ⟨fun W tk =>
  impPE (pe_callTy hc hg hm hv (ha.run W tk) hn hdb he hpl) fun σ H Q h => tCB_of hf h⟩
/-! the built-ins -/
def lenF : FB := fun xs m => match xs with
  | [.str z] => if z.length ≤ sizeLine then some (.int z.length, m) else none
  | [x] => (match seqD m x with
    | some ys => some (.int ys.length, m)
    | none => none)
  | _ => none
theorem scf_len {K : PySem.W.Frag} : SCF K lenF (fun xs H Q => (∃ p ys, xs = [.ref p] ∧ (SqL K H p ys ∨ SqT K H p ys) ∧ Q (.int ys.length) H) ∨ ∃ z, xs = [.str z] ∧ z.length ≤ sizeLine ∧ Q (.int z.length) H) := fun ρ m H xs vs z m' Q M a e k => by
  unfold lenF at e
  split at e
  · rename_i t
    split at e
    · rename_i c
      cases e
      obtain ⟨v, s, rfl, h1, h2⟩ := a
      subst h2
      exact .inr ⟨t, by rw [show v = V.str t from h1], c, k ρ H _ M .refl rfl⟩
    · cases e
  · split at e
    · rename_i ys hy
      cases e
      obtain ⟨v, s, rfl, h1, h2⟩ := a
      subst h2
      obtain ⟨q, ws, rfl, h3, h4⟩ := seqD_ok M h1 hy
      exact .inl ⟨q, ws, rfl, h3, k ρ H _ M .refl (by rw [h4.length]; rfl)⟩
    · cases e
  · cases e
theorem se_len (hg : Gl X "len") (hm : X.mg "len" = none) (ha : SA X (e :: es) d) (he : starEach (e :: es) X.env = (false, eval e X.env) :: starEach es X.env := by rfl) (hpl : (backTo pos (starEach es X.env)).any (·.1) = false := by rfl) :
    SE X (.Call (.Name "len" p) (e :: es) [] pos) (dB lenF d) := se_callB (CallR.or call_len_seq call_len_str) scf_len hg hm PySem.boot_len ha (by decide) (by decide) he hpl
def absF : FB := fun xs m => match xs with
  | [.int i] => some (.int (if i < 0 then -i else i), m)
  | _ => none
theorem scf_abs {K : PySem.W.Frag} : SCF K absF (fun xs H Q => ∃ i, xs = [.int i] ∧ Q (.int (if i < 0 then -i else i)) H) := fun ρ m H xs vs z m' Q M a e k => by
  unfold absF at e
  split at e
  · rename_i i
    cases e
    obtain ⟨v, s, rfl, h1, h2⟩ := a
    subst h2
    exact ⟨i, by rw [show v = V.int i from h1], k ρ H _ M .refl rfl⟩
  · cases e
theorem se_abs (hg : Gl X "abs") (hm : X.mg "abs" = none) (ha : SA X (e :: es) d) (he : starEach (e :: es) X.env = (false, eval e X.env) :: starEach es X.env := by rfl) (hpl : (backTo pos (starEach es X.env)).any (·.1) = false := by rfl) :
    SE X (.Call (.Name "abs" p) (e :: es) [] pos) (dB absF d) := se_callB call_abs scf_abs hg hm (by decide +kernel) ha (by decide) (by decide) he hpl
def two (g : Int → Int → Int) : FB := fun xs m => match xs with
  | [.int i, .int j] => some (.int (g i j), m)
  | _ => none
theorem scf_two {K : PySem.W.Frag} {g : Int → Int → Int} : SCF K (two g) (fun xs H Q => ∃ i j, xs = [.int i, .int j] ∧ Q (.int (g i j)) H) := fun ρ m H xs vs z m' Q M a e k => by
  unfold two at e
  split at e
  · rename_i i j
    cases e
    obtain ⟨v, s, rfl, h1, v2, s2, rfl, h2, h3⟩ := a
    subst h3
    exact ⟨i, j, by rw [show v = V.int i from h1, show v2 = V.int j from h2], k ρ H _ M .refl rfl⟩
  · cases e
def maxZ (i j : Int) : Int := if j > i then j else i
def minZ (i j : Int) : Int := if j < i then j else i
theorem se_max2 (hc : X.calm = true) (hg : Gl X "max") (hm : X.mg "max" = none) (ha : SA X (e :: es) d) (he : starEach (e :: es) X.env = (false, eval e X.env) :: starEach es X.env := by rfl) (hpl : (backTo pos (starEach es X.env)).any (·.1) = false := by rfl) :
    SE X (.Call (.Name "max" p) (e :: es) [] pos) (dB (two maxZ) d) := se_callB (call_max2 hc) scf_two hg hm (by decide +kernel) ha (by decide) (by decide) he hpl
theorem se_min2 (hc : X.calm = true) (hg : Gl X "min") (hm : X.mg "min" = none) (ha : SA X (e :: es) d) (he : starEach (e :: es) X.env = (false, eval e X.env) :: starEach es X.env := by rfl) (hpl : (backTo pos (starEach es X.env)).any (·.1) = false := by rfl) :
    SE X (.Call (.Name "min" p) (e :: es) [] pos) (dB (two minZ) d) := se_callB (call_min2 hc) scf_two hg hm (by decide +kernel) ha (by decide) (by decide) he hpl
def intFn : FB := fun xs m => match xs with
  | [.int i] => some (.int i, m)
  | [.bl b] => some (.int (if b then 1 else 0), m)
  | _ => none
theorem scf_intFn {K : PySem.W.Frag} : SCF K intFn (fun xs H Q => (∃ i, xs = [.int i] ∧ Q (.int i) H) ∨ ∃ k, xs = [.bl k] ∧ Q (.int (if k then 1 else 0)) H) := fun ρ m H xs vs z m' Q M a e k => by
  unfold intFn at e
  split at e
  · rename_i i
    cases e
    obtain ⟨v, s, rfl, h1, h2⟩ := a
    subst h2
    exact .inl ⟨i, by rw [show v = V.int i from h1], k ρ H _ M .refl rfl⟩
  · rename_i i
    cases e
    obtain ⟨v, s, rfl, h1, h2⟩ := a
    subst h2
    exact .inr ⟨i, by rw [show v = V.bl i from h1], k ρ H _ M .refl rfl⟩
  · cases e
theorem se_int1 (hg : Gl X "int") (hm : X.mg "int" = none) (ha : SA X (e :: es) d) (he : starEach (e :: es) X.env = (false, eval e X.env) :: starEach es X.env := by rfl) (hpl : (backTo pos (starEach es X.env)).any (·.1) = false := by rfl) :
    SE X (.Call (.Name "int" p) (e :: es) [] pos) (dB intFn d) := se_callTy call_int1 scf_intFn hg hm (by decide +kernel) ha (by decide) (by decide) he hpl
/-- list(x): a new list -/
def listH (m : Mem) (xs : List Vl) : Option (R (List Vl) × Mem) := match xs with
  | [x] => (match seqD m x with
    | some ys => if ys.length ≤ sizeLine then some (.ok ys, m) else none
    | none => none)
  | _ => none
def dListOf (d : DA) : DA := fun env m => bindR (d env m) fun xs m => listH m xs
theorem sl_list (hg : Gl X "list") (hm : X.mg "list" = none) (ha : SA X (e :: es) d) (he : starEach (e :: es) X.env = (false, eval e X.env) :: starEach es X.env := by rfl) (hpl : (backTo pos (starEach es X.env)).any (·.1) = false := by rfl) :
    SL X (.Call (.Name "list" p) (e :: es) [] pos) (dListOf d) := ⟨fun W tk => impPE (pe_callTy call_list_of hg hm (by decide +kernel) (ha.run W tk) (by decide) (by decide) he hpl) fun σ H Q ⟨ρ, env, m, z, m', s, e, p⟩ => by
    unfold dListOf bindR at e
    split at e
    · cases e
    · rename_i xs m1 h0
      refine goA s h0 fun ρ' H' vs s' E r => ?_
      dsimp only at e
      unfold listH at e
      split at e
      · rename_i x
        split at e
        · rename_i ys hy
          split at e
          · rename_i hz
            cases e
            obtain ⟨v, t, rfl, h1, h2⟩ := r
            subst h2
            obtain ⟨q, ws, rfl, h3, h4⟩ := seqD_ok s'.mem h1 hy
            exact ⟨q, ws, rfl, h3, fun l hl => p ρ' _ (s'.mem.laid hl) (E.trans (ext_new hl)) _ ⟨l, ws, rfl, ⟨s'.mem.fresh hl, s'.mem.freshz hl, E.none hl⟩, upd_same, by rw [← h4.length]; exact hz, h4.mono (ext_new hl)⟩⟩
          · cases e
        · cases e
      · cases e
    · rename_i c fs m1 h0
      cases e
      exact exA s h0 fun ρ' H' dd s' E r => p ρ' H' s'.mem E dd r⟩
/-- tuple(x) -/
def tupleF : FB := fun xs m => match xs with
  | [x] => (match seqD m x with
    | some ys => some (.tup ys, m)
    | none => none)
  | _ => none
theorem scf_tuple {K : PySem.W.Frag} : SCF K tupleF (fun xs H Q => ∃ p ys, xs = [.ref p] ∧ ((SqL K H p ys ∧ ∀ l, H l = none → Q (.ref l) (upd H l (.tup ys))) ∨ (SqT K H p ys ∧ Q (.ref p) H))) := fun ρ m H xs vs z m' Q M a e k => by
  unfold tupleF at e
  split at e
  · rename_i x
    split at e
    · rename_i ys hy
      cases e
      obtain ⟨v, s, rfl, h1, h2⟩ := a
      subst h2
      by_cases ht : ∃ zs, x = .tup zs
      · obtain ⟨zs, rfl⟩ := ht
        cases hy
        obtain ⟨q, ws, rfl, h3, h4⟩ := h1
        exact ⟨q, ws, rfl, .inr ⟨h3.sq, k ρ H _ M .refl ⟨q, ws, rfl, h3, h4⟩⟩⟩
      · have hl : lisD m x = some ys := by
          cases x <;> first | exact hy | exact absurd ⟨_, rfl⟩ ht
        obtain ⟨q, ws, rfl, h3, h4⟩ := lisD_ok M h1 hl
        exact ⟨q, ws, rfl, .inl ⟨h3, fun l hn => k ρ _ _ (M.laid hn) (ext_new hn) (new_tup M hn h4)⟩⟩
    · cases e
  · cases e
theorem se_tuple (hg : Gl X "tuple") (hm : X.mg "tuple" = none) (ha : SA X (e :: es) d) (he : starEach (e :: es) X.env = (false, eval e X.env) :: starEach es X.env := by rfl) (hpl : (backTo pos (starEach es X.env)).any (·.1) = false := by rfl) :
    SE X (.Call (.Name "tuple" p) (e :: es) [] pos) (dB tupleF d) := se_callTy call_tuple_of scf_tuple hg hm (by decide +kernel) ha (by decide) (by decide) he hpl
/-- all, any of a list of truth values -/
def blsL : List Vl → Option (List Bool)
  | [] => some []
  | .bl b :: xs => (match blsL xs with
    | some bs => some (b :: bs)
    | none => none)
  | _ :: _ => none
theorem blsL_ok {K : PySem.W.Frag} {ρ : Lay} {H : Hp} : ∀ {xs : List Vl} {vs : List V} {bs : List Bool}, RVs K ρ H xs vs → blsL xs = some bs → vs = bs.map V.bl
  | [], _, _, h, e => by
    cases e
    exact h
  | x :: xs, _, _, ⟨v, r, h1, h2, h3⟩, e => by
    cases x with
    | bl b =>
      unfold blsL at e
      split at e
      · rename_i bs hb
        cases e
        rw [h1, blsL_ok h3 hb, show v = V.bl b from h2] <;> rfl
      · cases e
    | _ => cases e
def quant (g : List Bool → Bool) : FB := fun xs m => match xs with
  | [x] => (match lisD m x with
    | some ys => (match blsL ys with
      | some bs => some (.bl (g bs), m)
      | none => none)
    | none => none)
  | _ => none
theorem scf_quant {K : PySem.W.Frag} {g : List Bool → Bool} : SCF K (quant g) (fun vs H Q => ∃ (a : Addr) (bs : List Bool), vs = [V.ref a] ∧ SqL K H a (bs.map V.bl) ∧ Q (.bl (g bs)) H) := fun ρ m H xs vs z m' Q M a e k => by
  unfold quant at e
  split at e
  · split at e
    · rename_i ys hy
      split at e
      · rename_i bs hb
        cases e
        obtain ⟨v, s, rfl, h1, h2⟩ := a
        subst h2
        obtain ⟨q, ws, rfl, h3, h4⟩ := lisD_ok M h1 hy
        exact ⟨q, bs, rfl, by rw [← blsL_ok h4 hb]; exact h3, k ρ H _ M .refl rfl⟩
      · cases e
    · cases e
  · cases e
theorem se_all (hc : X.calm = true) (hg : Gl X "all") (hm : X.mg "all" = none) (ha : SA X (e :: es) d) (he : starEach (e :: es) X.env = (false, eval e X.env) :: starEach es X.env := by rfl) (hpl : (backTo pos (starEach es X.env)).any (·.1) = false := by rfl) :
    SE X (.Call (.Name "all" p) (e :: es) [] pos) (dB (quant fun bs => bs.all fun b => b) d) := se_callB (cr_all hc) scf_quant hg hm (by decide +kernel) ha (by decide) (by decide) he hpl
theorem se_any (hc : X.calm = true) (hg : Gl X "any") (hm : X.mg "any" = none) (ha : SA X (e :: es) d) (he : starEach (e :: es) X.env = (false, eval e X.env) :: starEach es X.env := by rfl) (hpl : (backTo pos (starEach es X.env)).any (·.1) = false := by rfl) :
    SE X (.Call (.Name "any" p) (e :: es) [] pos) (dB (quant fun bs => bs.any fun b => b) d) := se_callB (cr_any hc) scf_quant hg hm (by decide +kernel) ha (by decide) (by decide) he hpl
/-! ### methods of built-in types -/
abbrev FM := Vl → List Vl → Mem → Option (Vl × Mem)
def SMF (K : PySem.W.Frag) (f : FM) (T : String) (r : V → List V → Hp → VK → Prop) : Prop := ∀ (ρ : Lay) (m : Mem) (H : Hp) (x : Vl) (xs : List Vl) (v : V) (vs : List V) (z : Vl) (m' : Mem) (Q : VK), RM K ρ m H → RV K ρ H x v → RVs K ρ H xs vs → f x xs m = some (z, m') →
  (∀ ρ' H' w, RM K ρ' m' H' → Ext ρ H ρ' H' → RV K ρ' H' z w → Q w H') → r v vs H Q
/-- the receiver's kind, told before the arguments -/
def tyM (T : String) (m : Mem) : Vl → Bool
  | .str _ => decide (T = "str")
  | .lst _ => decide (T = "list")
  | .obj n => (match m[n]? with
    | some (.lst _) => decide (T = "list")
    | some (.dic _) => decide (T = "dict")
    | some (.dit _) => decide (T = "dict")
    | _ => false)
  | .dic _ => decide (T = "dict")
  | .dit _ => decide (T = "dict")
  | _ => false
theorem tyM_ok {K : PySem.W.Frag} {ρ : Lay} {m : Mem} {H : Hp} {x : Vl} {v : V} (M : RM K ρ m H) (a : RV K ρ H x v) (h : tyM T m x = true) : tyV K T v H := by
  cases x with
  | str z =>
    rw [show v = V.str z from a]
    show T = "str"
    exact of_decide_eq_true h
  | lst xs =>
    obtain ⟨q, vs, rfl, _, h1, _⟩ := a
    exact .inl ⟨of_decide_eq_true h, vs, SqL.of h1⟩
  | dic xs =>
    obtain ⟨q, vs, rfl, _, h1, _⟩ := a
    exact .inr (.inr (.inl ⟨of_decide_eq_true h, .inl ⟨vs, h1⟩⟩))
  | dit xs =>
    obtain ⟨q, vs, rfl, _, h1, _⟩ := a
    exact .inr (.inr (.inl ⟨of_decide_eq_true h, .inr ⟨vs, h1⟩⟩))
  | obj n =>
    obtain ⟨q, rfl, hq⟩ := a
    have h' : (match m[n]? with
      | some (.lst _) => decide (T = "list")
      | some (.dic _) => decide (T = "dict")
      | some (.dit _) => decide (T = "dict")
      | _ => false) = true := h
    split at h'
    · rename_i xs hx
      obtain ⟨vs, h1, _⟩ := M.at_ _ _ _ hx hq
      exact .inl ⟨of_decide_eq_true h', vs, SqL.of h1⟩
    · rename_i xs hx
      obtain ⟨vs, h1, _⟩ := M.at_ _ _ _ hx hq
      exact .inr (.inr (.inl ⟨of_decide_eq_true h', .inl ⟨vs, h1⟩⟩))
    · rename_i xs hx
      obtain ⟨vs, h1, _⟩ := M.at_ _ _ _ hx hq
      exact .inr (.inr (.inl ⟨of_decide_eq_true h', .inr ⟨vs, h1⟩⟩))
    · cases h'
  | _ => cases h
def dM (T : String) (f : FM) (de : DE) (d : DA) : DE := fun env m => bindR (de env m) fun x m => if tyM T m x = true then bindR (d env m) fun xs m => okR (f x xs m) else none
theorem se_bm {rm : V → List V → Hp → VK → Prop} {fm : FM} (pa : PlainAttrs T) (slot : Slot T name id) (hty : typeOf (.builtin id) = pure (.type "method_descriptor")) (hm : MtR X id rm) (hf : SMF X.K fm T rm) (ho : SE X o de) (ha : SA X (e :: es) d)
    (hbase : attributeBase o name X.env (eval o X.env) = eval o X.env := by rfl)
    (hfew : ((backTo pos (starEach (e :: es) X.env)).all (fun x => !x.1) && (backToKw pos (keywordEach [] X.env)).all (fun x => x.1.isSome)
      && decide ((e :: es).length + ([] : List Keyword).length + (if ([] : List Keyword).isEmpty then 0 else 1) < 30)) = true := by rfl)
    (hline : (apos.endLine == pos.line) = true := by rfl) (hs : starEach (e :: es) X.env = (false, eval e X.env) :: starEach es X.env := by rfl) (hplain : (backTo pos (starEach es X.env)).any (·.1) = false := by rfl) :
    SE X (.Call (.Attribute o name apos) (e :: es) [] pos) (dM T fm de d) := ⟨fun W tk =>
  impPE (pe_bm pa slot hty hm (ho.run W tk) (ha.run W tk) hbase hfew hline hs hplain) fun σ H Q ⟨ρ, env, m, z, m', s, e, p⟩ => bindE s e p fun x m1 ρ1 H1 v s1 E1 r1 e1 p1 => by
    split at e1
    · rename_i ht
      exact ⟨tyM_ok s1.mem r1 ht, bindA s1 e1 p1 fun xs m2 ρ2 H2 vs s2 E2 r2 e2 p2 => by
        obtain ⟨w, h1, rfl⟩ := okR_some e2
        exact hf ρ2 m2 H2 x xs v vs w m' Q s2.mem (r1.mono E2) r2 h1 fun ρ' H' u M E r => p2 ρ' H' M E u r⟩
    · cases e1⟩
theorem se_bm0 {rm : V → List V → Hp → VK → Prop} {fm : FM} (pa : PlainAttrs T) (slot : Slot T name id) (hty : typeOf (.builtin id) = pure (.type "method_descriptor")) (hm : MtR X id rm) (hf : SMF X.K fm T rm) (ho : SE X o de)
    (hbase : attributeBase o name X.env (eval o X.env) = eval o X.env := by rfl) (hline : (apos.endLine == pos.line) = true := by rfl) : SE X (.Call (.Attribute o name apos) [] [] pos) (dM T fm de dNone) := ⟨fun W tk =>
  impPE (pe_bm0 pa slot hty hm (ho.run W tk) hbase hline) fun σ H Q ⟨ρ, env, m, z, m', s, e, p⟩ => bindE s e p fun x m1 ρ1 H1 v s1 E1 r1 e1 p1 => by
    split at e1
    · rename_i ht
      unfold dNone bindR at e1
      obtain ⟨w, h1, rfl⟩ := okR_some e1
      exact ⟨tyM_ok s1.mem r1 ht, hf ρ1 m1 H1 x [] v [] w m' Q s1.mem r1 rfl h1 fun ρ' H' u M E r => p1 ρ' H' M E u r⟩
    · cases e1⟩
theorem put_lst {K : PySem.W.Frag} {ρ : Lay} {m : Mem} {H : Hp} {n : Nat} {q : Addr} {xs : List Vl} {vs : List V} (M : RM K ρ m H) (hq : ρ.c[n]? = some q) (r : RVs K ρ H xs vs) : RM K ρ (m.set n (.lst xs)) (upd H q (.lst vs)) ∧ Ext ρ H ρ (upd H q (.lst vs)) :=
  have E : Ext ρ H ρ (upd H q (.lst vs)) := ext_set (List.mem_of_getElem? hq)
  ⟨M.put hq ⟨vs, upd_same, r.mono E⟩, E⟩
/-- xs.append(y) and others that change a list -/
def lstM (h : List Vl → List Vl → Option (Vl × List Vl)) : FM := fun x xs m => match x with
  | .obj n => (match m[n]? with
    | some (.lst ys) => (match h ys xs with
      | some (z, zs) => some (z, m.set n (.lst zs))
      | none => none)
    | _ => none)
  | _ => none
theorem smf_lst {K : PySem.W.Frag} {T : String} {h : List Vl → List Vl → Option (Vl × List Vl)} {rm : V → List V → Hp → VK → Prop}
    (hr : ∀ (ρ : Lay) (H : Hp) (a : Addr) (ys xs zs : List Vl) (us vs : List V) (z : Vl) (Q : VK), H a = some (.lst us) → RVs K ρ H ys us → RVs K ρ H xs vs → h ys xs = some (z, zs) → (∀ w ws, RV K ρ H z w → RVs K ρ H zs ws → Q w (upd H a (.lst ws))) → rm (.ref a) vs H Q) : SMF K (lstM h) T rm := fun ρ m H x xs v vs z m' Q M a b e k => by
  unfold lstM at e
  split at e
  · rename_i n
    split at e
    · rename_i ys hy
      split at e
      · rename_i w zs hz
        cases e
        obtain ⟨q, rfl, hq⟩ := a
        obtain ⟨us, h1, h2⟩ := M.at_ _ _ _ hy hq
        refine hr ρ H q ys xs zs us vs z Q h1 h2 b hz fun w ws rw_ rz => ?_
        obtain ⟨M', E'⟩ := put_lst M hq rz
        exact k ρ _ _ M' E' (rw_.mono E')
      · cases e
    · cases e
  · cases e
def appH (ys xs : List Vl) : Option (Vl × List Vl) := match xs with
  | [y] => if ys.length < sizeLine then some (.non, ys ++ [y]) else none
  | _ => none
theorem smf_app {K : PySem.W.Frag} : SMF K (lstM appH) "list" rAppend := smf_lst fun ρ H a ys xs zs us vs z Q h1 h2 b e k => by
  unfold appH at e
  split at e
  · rename_i y
    split at e
    · rename_i c
      cases e
      obtain ⟨v, s, rfl, r1, r2⟩ := b
      subst r2
      exact ⟨a, us, v, rfl, rfl, h1, by rw [← h2.length]; exact c, k _ _ rfl (h2.append ⟨v, [], rfl, r1, rfl⟩)⟩
    · cases e
  · cases e
theorem se_append (ho : SE X o de) (ha : SA X [e] d)
    (hbase : attributeBase o "append" X.env (eval o X.env) = eval o X.env := by rfl)
    (hfew : ((backTo pos (starEach [e] X.env)).all (fun x => !x.1) && (backToKw pos (keywordEach [] X.env)).all (fun x => x.1.isSome)
      && decide ([e].length + ([] : List Keyword).length + (if ([] : List Keyword).isEmpty then 0 else 1) < 30)) = true := by rfl)
    (hline : (apos.endLine == pos.line) = true := by rfl) (hs : starEach [e] X.env = (false, eval e X.env) :: starEach [] X.env := by rfl) (hplain : (backTo pos (starEach [] X.env)).any (·.1) = false := by rfl) :
    SE X (.Call (.Attribute o "append" apos) [e] [] pos) (dM "list" (lstM appH) de d) := se_bm PySem.F.plainAttrs_list PySem.F.slot_list_append PySem.F.type_list_append mt_append smf_app ho ha hbase hfew hline hs hplain
def extH (m : Mem) (ys xs : List Vl) : Option (Vl × List Vl) := none
def popH (ys xs : List Vl) : Option (Vl × List Vl) := match xs with
  | [.int i] => if (decide (-(2 ^ 63) ≤ i) && decide (i < 2 ^ 63)) = true then (match seqIndex? i ys.length with
    | some k => (match ys[k]? with
      | some y => some (y, ys.eraseIdx k)
      | none => none)
    | none => none) else none
  | _ => none
theorem smf_popAt {K : PySem.W.Frag} : SMF K (lstM popH) "list" rPopAt := smf_lst fun ρ H a ys xs zs us vs z Q h1 h2 b e k => by
  unfold popH at e
  split at e
  · rename_i i
    split at e
    · rename_i c
      split at e
      · rename_i j hj
        split at e
        · rename_i y hy
          cases e
          rw [Bool.and_eq_true, decide_eq_true_eq, decide_eq_true_eq] at c
          obtain ⟨v, s, rfl, r1, r2⟩ := b
          subst r2
          obtain ⟨w, h3, h4⟩ := h2.get hy
          exact ⟨a, us, i, j, w, rfl, by rw [show v = V.int i from r1], h1, c.1, c.2, by rw [← h2.length]; exact hj, h3, k _ _ h4 (h2.eraseIdx j)⟩
        · cases e
      · cases e
    · cases e
  · cases e
theorem se_popAt (ho : SE X o de) (ha : SA X [e] d)
    (hbase : attributeBase o "pop" X.env (eval o X.env) = eval o X.env := by rfl)
    (hfew : ((backTo pos (starEach [e] X.env)).all (fun x => !x.1) && (backToKw pos (keywordEach [] X.env)).all (fun x => x.1.isSome)
      && decide ([e].length + ([] : List Keyword).length + (if ([] : List Keyword).isEmpty then 0 else 1) < 30)) = true := by rfl)
    (hline : (apos.endLine == pos.line) = true := by rfl) (hs : starEach [e] X.env = (false, eval e X.env) :: starEach [] X.env := by rfl) (hplain : (backTo pos (starEach [] X.env)).any (·.1) = false := by rfl) :
    SE X (.Call (.Attribute o "pop" apos) [e] [] pos) (dM "list" (lstM popH) de d) := se_bm PySem.F.plainAttrs_list PySem.F.slot_list_pop PySem.F.type_list_pop mt_popAt smf_popAt ho ha hbase hfew hline hs hplain
def pop0H (ys xs : List Vl) : Option (Vl × List Vl) := match xs with
  | [] => (match ys[ys.length - 1]? with
    | some y => some (y, ys.dropLast)
    | none => none)
  | _ => none
theorem RVs.dropLast {K : PySem.W.Frag} {ρ : Lay} {H : Hp} {xs : List Vl} {vs : List V} (r : RVs K ρ H xs vs) : RVs K ρ H xs.dropLast vs.dropLast := by
  rw [List.dropLast_eq_take, List.dropLast_eq_take, r.length]
  exact r.take _
theorem smf_pop {K : PySem.W.Frag} : SMF K (lstM pop0H) "list" rPop := smf_lst fun ρ H a ys xs zs us vs z Q h1 h2 b e k => by
  unfold pop0H at e
  split at e
  · split at e
    · rename_i y hy
      cases e
      rw [show vs = [] from b]
      obtain ⟨w, h3, h4⟩ := h2.get hy
      exact ⟨a, us, w, rfl, rfl, h1, by rw [← h2.length]; exact h3, k _ _ h4 h2.dropLast⟩
    · cases e
  · cases e
theorem se_pop (ho : SE X o de) (hbase : attributeBase o "pop" X.env (eval o X.env) = eval o X.env := by rfl) (hline : (apos.endLine == pos.line) = true := by rfl) :
    SE X (.Call (.Attribute o "pop" apos) [] [] pos) (dM "list" (lstM pop0H) de dNone) := se_bm0 PySem.F.plainAttrs_list PySem.F.slot_list_pop PySem.F.type_list_pop mt_pop smf_pop ho hbase hline
def revH (ys xs : List Vl) : Option (Vl × List Vl) := match xs with
  | [] => some (.non, ys.reverse)
  | _ => none
theorem smf_rev {K : PySem.W.Frag} : SMF K (lstM revH) "list" rReverse := smf_lst fun ρ H a ys xs zs us vs z Q h1 h2 b e k => by
  unfold revH at e
  split at e
  · cases e
    rw [show vs = [] from b]
    exact ⟨a, us, rfl, rfl, h1, k _ _ rfl h2.reverse⟩
  · cases e
theorem se_reverse (ho : SE X o de) (hbase : attributeBase o "reverse" X.env (eval o X.env) = eval o X.env := by rfl) (hline : (apos.endLine == pos.line) = true := by rfl) :
    SE X (.Call (.Attribute o "reverse" apos) [] [] pos) (dM "list" (lstM revH) de dNone) := se_bm0 PySem.F.plainAttrs_list PySem.F.slot_list_reverse PySem.F.type_list_reverse mt_reverse smf_rev ho hbase hline
def clrH (ys xs : List Vl) : Option (Vl × List Vl) := match xs with
  | [] => some (.non, [])
  | _ => none
theorem smf_clr {K : PySem.W.Frag} : SMF K (lstM clrH) "list" rClear := smf_lst fun ρ H a ys xs zs us vs z Q h1 h2 b e k => by
  unfold clrH at e
  split at e
  · cases e
    rw [show vs = [] from b]
    exact ⟨a, us, rfl, rfl, h1, k _ _ rfl rfl⟩
  · cases e
/-- xs[i] = y -/
def gSetI (do' di : DE) : DG := fun x env m => match do' env m with
  | some (.ok (.obj n), m1) => (match di env m1 with
    | some (.ok (.int i), m2) => (match m2[n]? with
      | some (.lst ys) => (match ixN ys.length i with
        | some j => some (env, m2.set n (.lst (ys.set j x)))
        | none => none)
      | _ => none)
    | _ => none)
  | _ => none
theorem sg_setI {a b : Expr} {da db : DE} (ho : SE X a da) (hi : SE X b db)
    (ha : ∀ v, assign (.Subscript a b pos) X.env v = (do
      let ov ← holding [v] (eval a X.env)
      let iv ← holding [v, ov] (eval b X.env)
      standAt pos
      holding [v, ov, iv] (setItem ov iv v)
      release [v, ov, iv] []) := by intro _; rfl) : SG X (.Subscript a b pos) (gSetI da db) := ⟨fun W tk => impPG (pg_sub (ho.run W tk) (hi.run W tk) set_list ha) fun v σ H Q ⟨ρ, env, m, x, env', m', s, r, e, p⟩ => by
  unfold gSetI at e
  split at e
  · rename_i n m1 h1
    split at e
    · rename_i i m2 h2
      split at e
      · rename_i ys hy
        split at e
        · rename_i j hj
          cases e
          refine goE s h1 fun ρ1 H1 o1 s1 E1 r1 => goE s1 h2 fun ρ2 H2 i2 s2 E2 r2 => ?_
          obtain ⟨q, rfl, hq⟩ := RV.mono E2 _ r1
          obtain ⟨us, h3, h4⟩ := s2.mem.at_ _ _ _ hy hq
          have hset := h4.set j ((r.mono E1).mono E2)
          obtain ⟨M', E'⟩ := put_lst s2.mem hq hset
          exact ⟨q, us, i, j, rfl, r2, h3, by rw [← h4.length]; exact hj, p ρ2 _ σ (s2.to E' M') ((E1.trans E2).trans E')⟩
        · cases e
      · cases e
    · cases e
  · cases e⟩
end
end Z
namespace Z
open PySem PySem.Spec PyProof.Rows L2
/-! ### kinds of values: a built-in type, an own class -/
inductive TD where
  | b (n : String) | c (x : Str)
  deriving DecidableEq
def TD.val (K : PySem.W.Frag) : TD → Value
  | .b n => .type n
  | .c x => .ref (He.ga K x)
def tyD (m : Mem) : Vl → Option TD
  | .non => some (.b "NoneType")
  | .bl _ => some (.b "bool")
  | .int _ => some (.b "int")
  | .str _ => some (.b "str")
  | .tup _ => some (.b "tuple")
  | .lst _ => some (.b "list")
  | .frl _ => some (.b "list")
  | .dic _ => some (.b "dict")
  | .dit _ => some (.b "dict")
  | .ins c _ => some (.c c)
  | .obj n => (match m[n]? with
    | some (.lst _) => some (.b "list")
    | some (.dic _) => some (.b "dict")
    | some (.dit _) => some (.b "dict")
    | some (.ins c _) => some (.c c)
    | _ => none)
  | _ => none
/-- what isinstance and == ask of a class -/
structure InsT (K : PySem.W.Frag) (c : Str) : Prop where
  cl : Cls K (He.ga K c)
  ha : PySem.W.findIn K (.ref (He.ga K c)) "__class__" = some (some (.builtin "object.__class__"))
  hn : PySem.W.specialIn K (.builtin "object.__class__") "__get__" = some (some (.builtin "getset_descriptor.__get__"))
  ht : PySem.W.takesIn K (.builtin "object.__class__") = some true
  hm : PySem.W.mroIn K (He.ga K c) (.type "object") = some true
/-- of all classes whose instances come -/
def InsA (K : PySem.W.Frag) (cs : List Str) : Prop := ∀ c ∈ cs, InsT K c
def tdOk (cs : List Str) : TD → Bool
  | .b _ => true
  | .c x => cs.contains x
theorem tyD_ok {K : PySem.W.Frag} {ρ : Lay} {m : Mem} {H : Hp} {x : Vl} {v : V} {t : TD} {cs : List Str} (hI : InsA K cs) (M : RM K ρ m H) (a : RV K ρ H x v) (h : tyD m x = some t) (hc : tdOk cs t = true) : TyX K H v (t.val K) := by
  cases x with
  | non =>
    cases h
    rw [show v = _ from a]
    exact .base .non
  | bl b =>
    cases h
    rw [show v = _ from a]
    exact .base (.bl b)
  | int b =>
    cases h
    rw [show v = _ from a]
    exact .base (.int b)
  | str b =>
    cases h
    rw [show v = _ from a]
    exact .base (.str b)
  | tup xs =>
    cases h
    obtain ⟨p, vs, rfl, h1, _⟩ := a
    rcases h1 with ⟨_, h1 | ⟨o, h1⟩⟩ | ⟨o, its, n, h1, h2, _⟩
    · exact .base (.tup h1)
    · exact .fTuple h1
    · exact .kTuple h1 h2
  | lst xs =>
    cases h
    obtain ⟨p, vs, rfl, _, h1, _⟩ := a
    exact .base (.lst h1)
  | frl xs =>
    cases h
    obtain ⟨p, vs, rfl, h1, _⟩ := a
    rcases h1 with ⟨_, o, h1⟩ | ⟨o, its, n, h1, h2, _⟩
    · exact .base (.frz h1)
    · exact .kList h1 h2
  | dic xs =>
    cases h
    obtain ⟨p, vs, rfl, _, h1, _⟩ := a
    exact .base (.dK h1)
  | dit xs =>
    cases h
    obtain ⟨p, vs, rfl, _, h1, _⟩ := a
    exact .base (.dT h1)
  | ins c fs =>
    cases h
    obtain ⟨p, dx, vs, rfl, _, h1, _⟩ := a
    have i := hI c (by simpa [tdOk] using hc)
    exact .base (.ins h1 i.cl i.ha i.hn i.ht i.hm)
  | obj n =>
    obtain ⟨p, rfl, hp⟩ := a
    have h' : (match m[n]? with
      | some (.lst _) => some (TD.b "list")
      | some (.dic _) => some (.b "dict")
      | some (.dit _) => some (.b "dict")
      | some (.ins c _) => some (.c c)
      | _ => none) = some t := h
    split at h'
    · rename_i xs hx
      cases h'
      obtain ⟨vs, h1, _⟩ := M.at_ _ _ _ hx hp
      exact .base (.lst h1)
    · rename_i xs hx
      cases h'
      obtain ⟨vs, h1, _⟩ := M.at_ _ _ _ hx hp
      exact .base (.dK h1)
    · rename_i xs hx
      cases h'
      obtain ⟨vs, h1, _⟩ := M.at_ _ _ _ hx hp
      exact .base (.dT h1)
    · rename_i c xs hx
      cases h'
      obtain ⟨dx, vs, h1, _⟩ := M.at_ _ _ _ hx hp
      have i := hI c (by simpa [tdOk] using hc)
      exact .base (.ins h1 i.cl i.ha i.hn i.ht i.hm)
    · cases h'
  | _ => cases h
/-! ### isinstance -/
/-- which kinds are instances of which, as the table says -/
abbrev Kit := TD → TD → Option Bool
def KitOk (K : PySem.W.Frag) (kt : Kit) : Prop := ∀ t u b, kt t u = some b → PySem.W.kitOne K (t.val K) (u.val K) = some b
def clsD : Vl → Option TD
  | .ty n => some (.b n)
  | .glo x => some (.c x)
  | _ => none
theorem clsD_ok {K : PySem.W.Frag} {ρ : Lay} {H : Hp} {x : Vl} {v : V} {t : TD} (a : RV K ρ H x v) (h : clsD x = some t) : ClsV v (t.val K) := by
  cases x with
  | ty n =>
    cases h
    rw [show v = _ from a]
    exact .ty n
  | glo c =>
    cases h
    rw [show v = _ from a]
    exact .own _
  | _ => cases h
def clsDs : List Vl → Option (List TD)
  | [] => some []
  | x :: xs => (match clsD x with
    | some t => (match clsDs xs with
      | some ts => some (t :: ts)
      | none => none)
    | none => none)
theorem clsDs_ok {K : PySem.W.Frag} {ρ : Lay} {H : Hp} : ∀ {xs : List Vl} {vs : List V} {ts : List TD}, RVs K ρ H xs vs → clsDs xs = some ts → Paired ClsV vs (ts.map (TD.val K))
  | [], _, _, h, e => by
    cases e
    rw [show _ = [] from h]
    exact .nil
  | x :: xs, _, _, ⟨v, r, h1, h2, h3⟩, e => by
    unfold clsDs at e
    split at e
    · rename_i t ht
      split at e
      · rename_i ts hts
        cases e
        rw [h1]
        exact .cons (clsD_ok h2 ht) (clsDs_ok h3 hts)
      · cases e
    · cases e
def kitAnyD (kt : Kit) (t : TD) : List TD → Option Bool
  | [] => some false
  | u :: us => (match kt t u with
    | some true => some true
    | some false => kitAnyD kt t us
    | none => none)
theorem kitAnyD_ok {K : PySem.W.Frag} {kt : Kit} (hk : KitOk K kt) {t : TD} : ∀ {us : List TD} {b : Bool}, kitAnyD kt t us = some b → PySem.W.kitAny K (t.val K) (us.map (TD.val K)) = some b
  | [], b, e => by
    cases e
    exact kitAny_nil
  | u :: us, b, e => by
    unfold kitAnyD at e
    split at e
    · rename_i h
      cases e
      exact kitAny_cons (hk _ _ _ h) (fun q => nomatch q) fun _ => rfl
    · rename_i h
      exact kitAny_cons (hk _ _ _ h) (fun _ => kitAnyD_ok hk e) fun q => nomatch q
    · cases e
def isiF (cs : List Str) (kt : Kit) : FB := fun xs m => match xs with
  | [x, u] => (match tyD m x, clsD u with
    | some t, some t' => if tdOk cs t = true then (match kt t t' with
      | some b => some (.bl b, m)
      | none => none) else none
    | _, _ => none)
  | _ => none
theorem scf_isi {K : PySem.W.Frag} {cs : List Str} {kt : Kit} (hI : InsA K cs) (hk : KitOk K kt) : SCF K (isiF cs kt) (rIsi K) := fun ρ m H xs vs z m' Q M a e k => by
  unfold isiF at e
  split at e
  · rename_i x u
    split at e
    · rename_i t t' ht ht'
      split at e
      · rename_i hc
        split at e
        · rename_i b hb
          cases e
          obtain ⟨v, s, rfl, h1, v2, s2, rfl, h2, h3⟩ := a
          subst h3
          exact ⟨v, v2, _, _, b, rfl, clsD_ok h2 ht', tyD_ok hI M h1 ht hc, hk _ _ _ hb, k ρ H _ M .refl rfl⟩
        · cases e
      · cases e
    · cases e
  · cases e
section
variable {X : Cx} {x : Str} {p pos apos : Pos} {e a b o : Expr} {es : List Expr} {d : DA} {de da db : DE} {cs : List Str} {kt : Kit}
theorem se_isi (hI : InsA X.K cs) (hk : KitOk X.K kt) (hg : Gl X "isinstance") (hm : X.mg "isinstance" = none) (ha : SA X (e :: es) d) (he : starEach (e :: es) X.env = (false, eval e X.env) :: starEach es X.env := by rfl) (hpl : (backTo pos (starEach es X.env)).any (·.1) = false := by rfl) :
    SE X (.Call (.Name "isinstance" p) (e :: es) [] pos) (dB (isiF cs kt) d) := se_callB call_isi (scf_isi hI hk) hg hm (by decide +kernel) ha (by decide) (by decide) he hpl
def dIsiT (cs : List Str) (kt : Kit) (de : DE) (d : DA) : DE := fun env m => bindR (de env m) fun x m => bindR (d env m) fun us m => match tyD m x, clsDs us with
  | some t, some ts => if (tdOk cs t && decide (us.length ≤ sizeLine)) = true then (match kitAnyD kt t ts with
    | some b => some (.ok (.bl b), m)
    | none => none) else none
  | _, _ => none
theorem se_isiT {tk' : Nat} {tpos : Pos} (hI : InsA X.K cs) (hk : KitOk X.K kt) (hg : Gl X "isinstance") (hm : X.mg "isinstance" = none) (he : SE X e de) (ha : SA X es d)
    (hs : starEach [e, .Tuple es tk' tpos] X.env = (false, eval e X.env) :: starEach [.Tuple es tk' tpos] X.env := by rfl) (hs2 : starEach [.Tuple es tk' tpos] X.env = (false, eval (.Tuple es tk' tpos) X.env) :: starEach [] X.env := by rfl)
    (hpl : (backTo pos (starEach [.Tuple es tk' tpos] X.env)).any (·.1) = false := by rfl) : SE X (.Call (.Name "isinstance" p) [e, .Tuple es tk' tpos] [] pos) (dIsiT cs kt de d) := ⟨fun W tk =>
  impPE (pe_callB call_isiT hg hm (by decide +kernel) (pa_cons (he.run W tk) (pa_cons (pe_tup (ha.run W tk)) pa_nil hs2) hs) (by decide) (by decide) hs hpl) fun σ H Q ⟨ρ, env, m, z, m', s, e, p⟩ =>
    bindE s e p fun y m1 ρ1 H1 v s1 E1 r1 e1 p1 => bindA s1 e1 p1 fun us m2 ρ2 H2 vs s2 E2 r2 e2 p2 => by
      split at e2
      · rename_i t ts ht hts
        split at e2
        · rename_i hc
          rw [Bool.and_eq_true, decide_eq_true_eq] at hc
          split at e2
          · rename_i b hb
            cases e2
            refine ⟨by rw [← r2.length]; exact hc.2, fun q hq => ?_⟩
            have E3 : Ext ρ2 H2 ρ2 (upd H2 q (.tup vs)) := ext_new hq
            have M3 : RM X.K ρ2 _ (upd H2 q (.tup vs)) := s2.mem.laid hq
            exact ⟨v, q, vs, _, _, b, rfl, upd_same, clsDs_ok r2 hts, tyD_ok hI M3 ((r1.mono E2).mono E3) ht hc.1, kitAnyD_ok hk hb, p2 ρ2 _ M3 E3 _ rfl⟩
          · cases e2
        · cases e2
      · cases e2⟩
/-! ### == and != by an own method -/
/-- x op y, x an instance of the class c with the method at f; y of one of the kinds ts -/
def dCmpO (c : Str) (cs : List Str) (ts : List TD) (gz : List Vl → List Vl → List Vl) (g : FD) (da db : DE) : DE := fun env m => bindR (da env m) fun x m => bindR (db env m) fun y m => match insD m x, tyD m y with
  | some (c', _), some t => if (decide (c' = c) && (ts.contains t && tdOk cs t)) = true then g (gz [x, y] []) m else none
  | _, _ => none
structure OwnM (K : PySem.W.Frag) (c mn : Str) (f : Addr) (ts : List TD) : Prop where
  at_ : PySem.W.findIn K (.ref (He.ga K c)) mn = some (some (.ref f))
  fn : PySem.W.isFn K (.ref f) = true
  nf : ∀ t ∈ ts, PySem.W.notFirst K (He.ga K c) (t.val K) = true
variable {c mn : Str} {f : Addr} {ts : List TD} {k : Nat} {gz : List Vl → List Vl → List Vl} {g : FD}
/-- the rich comparison, somewhere below the running body -/
structure Sub (X : Cx) (n : Nat) (A : Around) : Prop where
  room : Room n A
  fr : A.frames = X.A.frames
theorem Sub.in1 {X : Cx} {n : Nat} {A : Around} (s : Sub X (n + 1) A) : Sub X n A.in1 := ⟨s.room.in1, s.fr⟩
theorem rc_own {op : CmpOp} {A : Around} {E : Value → Shared → Prop} (ho : (cmpInfo op).2.1 = mn) (hI : InsA X.K cs) (O : OwnM X.K c mn f ts) (F : Fz X.prog X.w X.K X.mg X.base k f 2 [] gz g) (sb : Sub X k A) {pins : List (Addr × Obj)} {σ : L2.St} {H : Hp} {s : Shared} {Q : Value → Shared → Prop} {EE : XK}
    {u : Value} {y : V} {q dx : Addr} {gs : List (Str × V)} {ρ : Lay} {m m' : Mem} {xv yv : Vl} {r : R Vl} {t : TD} (I : Inv X pins σ H s) (hq : H q = some (.ins (He.ga X.K c) dx gs)) (ry : RelV y u) (M : RM X.K ρ m H) (rx : RV X.K ρ H xv (.ref q)) (ryv : RV X.K ρ H yv y)
    (ht : tyD m yv = some t) (hts : ts.contains t = true) (htc : tdOk cs t = true) (e : g (gz [xv, yv] []) m = some (r, m')) (hE : ∀ e s', L2.CX X.prog X.w X.stack H s EE e s' → E e s')
    (p : ∀ ρ' H', RM X.K ρ' m' H' → Ext ρ H ρ' H' → match r with
      | .ok z => ∀ v w s', RV X.K ρ' H' z v → RelV v w → Inv X pins σ H' s' → Q w s'
      | .ex c fs => ∀ dd, XD X.K ρ' H' dd fs → EE (.ref (He.ga X.K c)) dd H') : wpAny (model X.prog X.w) A (richCompare op (.ref q) u) Q E s := by
  obtain ⟨fd, ps, gs', gV, h1, h2, h3⟩ := F.ex
  obtain ⟨mA, J, _⟩ := ins_get I.hok hq
  obtain ⟨od, J, _⟩ := J.look
  obtain ⟨m0, hF⟩ := I.fr
  obtain ⟨P, kx, hP, _⟩ := kit_of I ry (tyD_ok hI M ryv ht htc)
  have hl := kx.ty (model X.prog X.w) s.heap I.kIn hP
  refine PySem.W.cmp_K (op := op) (tb := t.val X.K) sb.room.units0 hF I.ok.mod.kin J hl (O.nf t (by simpa using hts)) (by rw [ho]; exact O.at_) O.fn ?_
  have e0 : Env0 X.prog X.w X.K X.mg X.base A X.stack s H := by
    have e := I.env0
    exact ⟨by rw [sb.fr]; exact e.frames, e.mod, e.bs, e.bsz, e.funs, e.frf, e.hok, e.bare⟩
  obtain ⟨hl2, rg⟩ := h3 ρ H [xv, yv] [.ref q, y] [] [] rfl rfl ⟨_, _, rfl, rx, _, _, rfl, ryv, rfl⟩ rfl
  have r1 : Vals [V.ref q, y] [Value.ref q, u] := .cons rfl (.cons ry .nil)
  have r2 := h2.rel r1 (.nil : Vals [] [])
  refine wpAny_call (codeAny_mono (h1.run A X.stack s H ⟨[.ref q, u], []⟩ (gs' [.ref q, u] []) (gV [.ref q, y] []) (fun v H' => ∃ ρ' z, r = .ok z ∧ RM X.K ρ' m' H' ∧ Ext ρ H ρ' H' ∧ RV X.K ρ' H' z v) EE sb.room e0 (h2.to s [.ref q, u] [] I.kIn rfl rfl) r2 ⟨hl2, ρ, m, _, r, m', M, rg, e, fun ρ' H' M' E' => ?_⟩) fun rr s' hq' => ?_)
  · have pp := p ρ' H' M' E'
    cases r with
    | ok z => exact fun v rv => ⟨ρ', z, rfl, M', E', rv⟩
    | ex c fs => exact pp
  · cases rr with
    | error er => exact hE er s' hq'
    | ok fl =>
      cases fl with
      | ret w =>
        obtain ⟨v, H', I', rv, ρ', z, rfl, M', E', rz⟩ := I.after hq'
        have pp := p ρ' H' M' E' v w s' rz rv I'
        show PySem.W.CmpBack Q w s'
        cases w with
        | notImplemented => cases v <;> first | (obtain ⟨_, hh⟩ := rv; cases hh) | cases rv
        | _ => exact pp
      | next => exact False.elim hq'
      | brk => exact False.elim hq'
      | cont => exact False.elim hq'
theorem se_cmpO {op : CmpOp} (ho : (cmpInfo op).2.1 = mn) (hop : ∀ a b, compareOp op a b = richCompare op a b) (hI : InsA X.K cs) (O : OwnM X.K c mn f ts) (F : Fz X.prog X.w X.K X.mg X.base k f 2 [] gz g) (hr : Room k X.A) (ha : SE X a da) (hb : SE X b db) (hm : behindInMarks op b = false) :
    SE X (.Compare a [op] [b] pos) (dCmpO c cs ts gz g da db) := ⟨fun W tk => ⟨fun pins s σ H Q I h => by
  obtain ⟨ρ, env, m, z, m', st, ee, pp⟩ := h
  refine wpAny_Compare1 ?_ hm
  have h' : rdE X.K W da σ H (fun v H1 => rdE X.K W db σ H1 fun u H2 => ∃ q dx gs ρ' m1 xv yv t, v = .ref q ∧ H2 q = some (.ins (He.ga X.K c) dx gs) ∧ RM X.K ρ' m1 H2 ∧ RV X.K ρ' H2 xv v ∧ RV X.K ρ' H2 yv u ∧ tyD m1 yv = some t ∧ ts.contains t = true ∧ tdOk cs t = true ∧ g (gz [xv, yv] []) m1 = some (z, m') ∧ Po X.K ρ' H2 (RV X.K) (fun c dd H' => W c dd σ H') Q z m') :=
    bindE st ee pp fun x m1 ρ1 H1 v s1 E1 r1 e1 p1 => bindE s1 e1 p1 fun y m2 ρ2 H2 u s2 E2 r2 e2 p2 => by
      split at e2
      · rename_i c' fs t hi ht
        split at e2
        · rename_i hc
          rw [Bool.and_eq_true, Bool.and_eq_true, decide_eq_true_eq] at hc
          obtain ⟨rfl, hc1, hc2⟩ := hc
          obtain ⟨q, dx, gs, rfl, h3, h4⟩ := insD_ok s2.mem (r1.mono E2) hi
          exact ⟨q, dx, gs, ρ2, m2, x, y, t, rfl, h3, s2.mem, r1.mono E2, r2, ht, hc1, hc2, e2, p2⟩
        · cases e2
      · cases e2
  refine thn ((ha.run W tk).run pins s σ H _ I h') fun v s1 ⟨x, H1, I1, rx, q1⟩ => ?_
  refine thn ((hb.run W tk).run pins s1 σ H1 _ I1 q1) fun u s2 ⟨y, H2, I2, ry, q, dx, gs, ρ2, m2, xv, yv, t, ex, hq, M2, rxv, ryv, ht, hts, htc, eg, p2⟩ => ?_
  subst ex
  obtain rfl : v = Value.ref q := rx
  rw [hop]
  refine rc_own (EE := fun c dd H' => W c dd σ H') ho hI O F ⟨hr, rfl⟩ I2 hq ry M2 rxv ryv ht hts htc eg (fun er s' hx => tk er s' (XE.of_call I2 (fun _ _ _ h => h) hx)) fun ρ' H' M' E' => ?_
  have p3 := p2 ρ' H' M' E'
  cases z with
  | ok z => exact fun v w s' rz rv I' => ⟨v, H', I', rv, p3 v rz⟩
  | ex c fs => exact p3⟩⟩
/-- the same as a test -/
theorem st_of_cmp {op : CmpOp} (hm : behindInMarks op b = false) (h : SE X (.Compare a [op] [b] pos) de) (he : ∀ whole, isTrue (.Compare a [op] [b] pos) X.env whole = (do let v ← whole; standAt pos; holding [v] (truthy v)) := by intro _; rfl) : True := trivial
theorem se_eqO (hI : InsA X.K cs) (O : OwnM X.K c "__eq__" f ts) (F : Fz X.prog X.w X.K X.mg X.base k f 2 [] gz g) (hr : Room k X.A) (ha : SE X a da) (hb : SE X b db) : SE X (.Compare a [.Eq] [b] pos) (dCmpO c cs ts gz g da db) := se_cmpO rfl (fun _ _ => rfl) hI O F hr ha hb (nomark _)
theorem se_neO (hI : InsA X.K cs) (O : OwnM X.K c "__ne__" f ts) (F : Fz X.prog X.w X.K X.mg X.base k f 2 [] gz g) (hr : Room k X.A) (ha : SE X a da) (hb : SE X b db) : SE X (.Compare a [.NotEq] [b] pos) (dCmpO c cs ts gz g da db) := se_cmpO rfl (fun _ _ => rfl) hI O F hr ha hb (nomark _)
end
end Z
namespace ZQ
open PySem PySem.SeqAt
open AutoSeq1 (wpAny_loadPart')
open MeetsSeq MeetsSeq2 MeetsSeq3 SeqRoads2
section
variable {prog : Program} {w : World} {A : Around} {R : Result → Shared → Prop}
/-- x in l: at each turn the list is read anew; F: found -/
def InI (prog : Program) (w : World) (A : Around) (E : Value → Shared → Prop) (l : Addr) (x : Value) (N : Nat) (I : Nat → Shared → Prop) (F : Shared → Prop) : Prop :=
  ∀ i s, I i s → ∃ (items : Array Value) (n : Nat) (dd : Option Addr) (sl : Array (Option Value)), s.heap.get? l = some { cls := .type "list", dict := dd, data := .seq items n, slots := sl } ∧ items.size = N ∧
    ∀ (h : i < items.size), wpAny (model prog w) A.in1 (eqBool items[i] x) (fun r s' => (r = true → F s') ∧ (r = false → I (i + 1) s')) E s
theorem in_loopZ (l : Addr) (x : Value) (N : Nat) (I : Nat → Shared → Prop) (F : Shared → Prop) (hl : InI prog w A (fun e s' => R (.error e) s') l x N I F) (fT : ∀ s', F s' → R (.ok (.ret (.bool true))) s') (fF : ∀ s', I N s' → R (.ok (.ret (.bool false))) s') (k : Nat) :
    ∀ i : Nat, N - i = k → i ≤ N → ∀ s, I i s →
      wpAny (model prog w) A.in1 (Builtin.«list.__contains__.loop» ⟨[.ref l, x, rawInt i], []⟩) (GQ.FinOf prog w A R) (fun e s' => R (.error e) s') s := by
  induction k with
  | zero =>
    intro i hk hi s h
    obtain ⟨items, n, dd, sl, hl1, hs1, _⟩ := hl _ _ h
    have hi' : i = N := by omega
    have hR := fF s (hi' ▸ h)
    obtain ⟨hp, g, d, tk, os⟩ := s
    wp_walk using wpAny_loadPart' hl1
    have hi1 : items[((i : Nat) : Int).toNat]? = none := by simp; omega
    rw [hi1]
    wp_walk
    exact hR
  | succ k ih =>
    intro i hk hi s h
    obtain ⟨items, n, dd, sl, hl1, hs1, turn⟩ := hl _ _ h
    have hlt : i < items.size := by omega
    have ht := turn hlt
    obtain ⟨hp, g, d, tk, os⟩ := s
    wp_walk using wpAny_loadPart' hl1
    have hi1 : items[((i : Nat) : Int).toNat]? = some items[i] := by simp [hlt]
    have hc : ((i : Int) + 1) = ((i + 1 : Nat) : Int) := by omega
    rw [hi1]
    refine wpAny_bind (wpAny_mono ht (fun r s2 h2 => ?_) fun _ _ x => x)
    cases r with
    | true =>
      have hR := fT s2 (h2.1 rfl)
      obtain ⟨hp2, g2, d2, tk2, os2⟩ := s2
      wp_walk
      exact hR
    | false =>
      have hrec := ih (i + 1) (by omega) (by omega) s2 (h2.2 rfl)
      obtain ⟨hp2, g2, d2, tk2, os2⟩ := s2
      wp_walk
      rw [hc]
      exact ⟨plainId_quiet plain_contains_loop _, codeAny_builtin entry_contains_loop (by
        rw [Around.under_plainId plain_contains_loop _]
        exact hrec)⟩
theorem list_inZ (l : Addr) (x : Value) (N : Nat) (I : Nat → Shared → Prop) (F : Shared → Prop) (hl : InI prog w A (fun e s' => R (.error e) s') l x N I F) (fT : ∀ s', F s' → R (.ok (.ret (.bool true))) s') (fF : ∀ s', I N s' → R (.ok (.ret (.bool false))) s') {s : Shared} (h : I 0 s) :
    wpAny (model prog w) A.in1 (Builtin.«list.__contains__» ⟨[.ref l, x], []⟩) (GQ.FinOf prog w A R) (fun e s' => R (.error e) s') s := by
  have hrec := in_loopZ (A := A) (R := R) l x N I F hl fT fF _ 0 rfl (Nat.zero_le _) s h
  obtain ⟨items, n, dd, sl, hl1, hs1, _⟩ := hl _ _ h
  obtain ⟨hp, g, d, tk, os⟩ := s
  wp_walk using wpAny_loadPart' hl1
  exact ⟨plainId_quiet plain_contains_loop _, codeAny_builtin entry_contains_loop (by
    rw [Around.under_plainId plain_contains_loop _]
    exact hrec)⟩
end
section
variable {prog : Program} {w : World} {A : Around} {E : Value → Shared → Prop} {s : Shared}
theorem contains_listZ {l : Addr} {x : Value} {N : Nat} {Q : Bool → Shared → Prop} (I : Nat → Shared → Prop) (G : Shared → Prop) (hl : InI prog w A E l x N I G) (fT : ∀ s', G s' → Q true s') (fF : ∀ s', I N s' → Q false s') (h : I 0 s) :
    wpAny (model prog w) A (contains (.ref l) x) Q E s := by
  obtain ⟨items, n, dd, sl, hl1, hs1, _⟩ := id (hl _ _ h)
  refine wpAny_contains_slot ⟨_, hl1, rfl⟩ F.slot_list_contains (wpAny_mono (GQ.call_here (Q := fun v s' => ∃ b, v = .bool b ∧ Q b s') F.slot_list_contains ⟨_, hl1, rfl⟩ F.entry_list_contains (F.args_list_contains_2 _ _)
    (list_inZ (R := wants (fun v s' => ∃ b, v = .bool b ∧ Q b s') E) l x N I G hl (fun s' q => ⟨true, rfl, fT s' q⟩) (fun s' q => ⟨false, rfl, fF s' q⟩) h)) (fun v s' hv => ?_) fun _ _ e => e)
  obtain ⟨b, rfl, hq⟩ := hv
  exact wpAny_truthy_bool hq
theorem in_listZ {l : Addr} {x : Value} {N : Nat} {Q : Value → Shared → Prop} (I : Nat → Shared → Prop) (G : Shared → Prop) (hl : InI prog w A E l x N I G) (fT : ∀ s', G s' → Q (.bool true) s') (fF : ∀ s', I N s' → Q (.bool false) s') (h : I 0 s) :
    wpAny (model prog w) A (compareOp .In x (.ref l)) Q E s := by
  show wpAny _ A (do return .bool (← contains (.ref l) x)) Q E s
  exact wpAny_bind (contains_listZ I G hl (fun s' q => wpAny_pure (fT s' q)) (fun s' q => wpAny_pure (fF s' q)) h)
theorem notIn_listZ {l : Addr} {x : Value} {N : Nat} {Q : Value → Shared → Prop} (I : Nat → Shared → Prop) (G : Shared → Prop) (hl : InI prog w A E l x N I G) (fT : ∀ s', G s' → Q (.bool false) s') (fF : ∀ s', I N s' → Q (.bool true) s') (h : I 0 s) :
    wpAny (model prog w) A (compareOp .NotIn x (.ref l)) Q E s := by
  show wpAny _ A (do return .bool (!(← contains (.ref l) x))) Q E s
  exact wpAny_bind (contains_listZ I G hl (fun s' q => wpAny_pure (fT s' q)) (fun s' q => wpAny_pure (fF s' q)) h)
/-- == inside a builtin of two values that are not the same -/
theorem eqBool_ne {u v : Value} {Q : Bool → Shared → Prop} (hne : u ≠ v) (hf : ∀ x t, u ≠ .float x t) (h : wpAny (model prog w) A (richCompare .Eq u v) (fun z s' => ∃ r, z = .bool r ∧ Q r s') E s) : wpAny (model prog w) A (eqBool u v) Q E s := by
  unfold eqBool
  refine wpAny_holding ?_
  refine wpAny_ite_split (fun hab => absurd (eq_of_beq hab) hne) (fun _ => ?_)
  have tail : wpAny (model prog w) A (do truthOfDropped (← richCompare .Eq u v)) Q E s := wpAny_bind (wpAny_mono h (fun z s' hv => by
    obtain ⟨r, rfl, q⟩ := hv
    exact wpAny_truthy_bool q) fun _ _ x => x)
  cases u with
  | float x t => exact absurd rfl (hf x t)
  | _ => exact tail
end
end ZQ
namespace Z
open PySem PySem.Spec PyProof.Rows L2
/-! ### == inside a built-in, the memory kept -/
def EQ (X : Cx) (k : Nat) (h : Vl → Vl → Mem → Option Bool) : Prop :=
  ∀ (A : Around) (pins : List (Addr × Obj)) (s : Shared) (σ : L2.St) (ρ : Lay) (m : Mem) (H : Hp) (x y : Vl) (a b : V) (u v : Value) (r : Bool), Sub X k A → Inv X pins σ H s → RelV a u → RelV b v → RM X.K ρ m H → RV X.K ρ H x a → RV X.K ρ H y b → h x y m = some r →
    wpAny (model X.prog X.w) A (eqBool u v) (fun q s' => q = r ∧ ∃ ρ' H', RM X.K ρ' m H' ∧ Ext ρ H ρ' H' ∧ Inv X pins σ H' s') X.xe s
def orQ (h h' : Vl → Vl → Mem → Option Bool) : Vl → Vl → Mem → Option Bool := fun x y m => match h x y m with
  | some r => some r
  | none => h' x y m
theorem eq_or {X : Cx} {k : Nat} {h h' : Vl → Vl → Mem → Option Bool} (a : EQ X k h) (b : EQ X k h') : EQ X k (orQ h h') := fun A pins s σ ρ m H x y va vb u v r sb I ra rb M rx ry e => by
  unfold orQ at e
  split at e
  · rename_i q hq
    cases e
    exact a A pins s σ ρ m H x y va vb u v r sb I ra rb M rx ry hq
  · exact b A pins s σ ρ m H x y va vb u v r sb I ra rb M rx ry e
/-- of data -/
def datQ : Vl → Vl → Mem → Option Bool := fun x y m => match toDm m x, toDm m y with
  | some d, some e => if (SeqAt.shaped d && SeqAt.shaped e) = true then some (PyData.eqv d e) else none
  | _, _ => none
theorem eq_dat {X : Cx} : EQ X 0 datQ := fun A pins s σ ρ m H x y a b u v r sb I ra rb M rx ry e => by
  unfold datQ at e
  split at e
  · rename_i d d' hd hd'
    split at e
    · rename_i c
      cases e
      rw [Bool.and_eq_true] at c
      obtain ⟨as, r1⟩ := Dp.reads I d a u (toDm_ok M rx hd) ra
      obtain ⟨bs, r2⟩ := Dp.reads I d' b v (toDm_ok M ry hd') rb
      exact SeqAt.eqAt_reads _ _ A s _ _ _ _ r1 r2 (SeqAt.canLay_of_shaped c.1) (SeqAt.canLay_of_shaped c.2) (SeqAt.room_of_shaped c.1 sb.room.units) X.prog X.w X.xe _ ⟨rfl, ρ, H, M, .refl, I⟩
    · cases e
  · cases e
/-- surely not the same object -/
def scD : Vl → Option V
  | .non => some .non
  | .bl b => some (.bl b)
  | .int i => some (.int i)
  | .str x => some (.str x)
  | _ => none
def scNe : V → V → Bool
  | .non, .non => false
  | .bl a, .bl b => a != b
  | .int a, .int b => a != b
  | .str a, .str b => a != b
  | .bl _, .non => true
  | .bl _, .int _ => true
  | .bl _, .str _ => true
  | .non, .bl _ => true
  | .non, .int _ => true
  | .non, .str _ => true
  | .int _, .non => true
  | .int _, .bl _ => true
  | .int _, .str _ => true
  | .str _, .non => true
  | .str _, .bl _ => true
  | .str _, .int _ => true
  | _, _ => false
theorem scNe_ok : ∀ {a : V}, scNe a a = true → False := fun {a} e => by
  cases a <;> simp [scNe] at e
def refD : Vl → Bool
  | .tup _ => true
  | .lst _ => true
  | .frl _ => true
  | .dic _ => true
  | .dit _ => true
  | .ins _ _ => true
  | .obj _ => true
  | .glo _ => true
  | .err _ _ => true
  | _ => false
def difS (x y : Vl) : Bool := match scD x, scD y with
  | some a, some b => scNe a b
  | some _, none => refD y
  | none, some _ => refD x
  | none, none => (match x, y with
    | .obj n, .obj k => n != k
    | _, _ => false)
def difI (m : Mem) (x y : Vl) : Bool := difS x y || (match insD m x, insD m y with
  | some (_, fs), some (_, gs) => fs.any fun p => match fs.lookup p.1, gs.lookup p.1 with
    | some v, some w => difS v w
    | _, _ => false
  | _, _ => false)
theorem scD_ok {K : PySem.W.Frag} {ρ : Lay} {H : Hp} {x : Vl} {v a : V} (r : RV K ρ H x v) (e : scD x = some a) : v = a ∧ ∀ p, v ≠ .ref p := by
  cases x with
  | non => cases e; have r' : v = .non := r; subst r'; exact ⟨rfl, fun p h => nomatch h⟩
  | bl b => cases e; have r' : v = .bl b := r; subst r'; exact ⟨rfl, fun p h => nomatch h⟩
  | int b => cases e; have r' : v = .int b := r; subst r'; exact ⟨rfl, fun p h => nomatch h⟩
  | str b => cases e; have r' : v = .str b := r; subst r'; exact ⟨rfl, fun p h => nomatch h⟩
  | _ => cases e
theorem refD_ok {K : PySem.W.Frag} {ρ : Lay} {H : Hp} {x : Vl} {v : V} (r : RV K ρ H x v) (e : refD x = true) : ∃ p, v = .ref p := by
  cases x with
  | tup _ => obtain ⟨a, _, h, _⟩ := r; exact ⟨a, h⟩
  | lst _ => obtain ⟨a, _, h, _⟩ := r; exact ⟨a, h⟩
  | frl _ => obtain ⟨a, _, h, _⟩ := r; exact ⟨a, h⟩
  | dic _ => obtain ⟨a, _, h, _⟩ := r; exact ⟨a, h⟩
  | dit _ => obtain ⟨a, _, h, _⟩ := r; exact ⟨a, h⟩
  | ins _ _ => obtain ⟨a, _, _, h, _⟩ := r; exact ⟨a, h⟩
  | obj _ => obtain ⟨a, h, _⟩ := r; exact ⟨a, h⟩
  | err _ _ => obtain ⟨a, _, _, h, _⟩ := r; exact ⟨a, h⟩
  | glo c => exact ⟨_, r⟩
  | _ => cases e
theorem difS_ok {K : PySem.W.Frag} {ρ : Lay} {m : Mem} {H : Hp} (M : RM K ρ m H) {x y : Vl} {v : V} (rx : RV K ρ H x v) (ry : RV K ρ H y v) (e : difS x y = true) : False := by
  unfold difS at e
  split at e
  · rename_i a b h1 h2
    obtain ⟨rfl, _⟩ := scD_ok rx h1
    obtain ⟨rfl, _⟩ := scD_ok ry h2
    exact scNe_ok e
  · rename_i a h1 h2
    obtain ⟨p, rfl⟩ := refD_ok ry e
    exact (scD_ok rx h1).2 p rfl
  · rename_i a h1 h2
    obtain ⟨p, rfl⟩ := refD_ok rx e
    exact (scD_ok ry h2).2 p rfl
  · split at e
    · rename_i n k _ _
      obtain ⟨a, rfl, h1⟩ := rx
      obtain ⟨b, h2, h3⟩ := ry
      cases h2
      exact M.ne h1 h3 (by simpa using e) rfl
    · cases e
theorem difI_ok {K : PySem.W.Frag} {ρ : Lay} {m : Mem} {H : Hp} (M : RM K ρ m H) {x y : Vl} {v : V} (rx : RV K ρ H x v) (ry : RV K ρ H y v) (e : difI m x y = true) : False := by
  unfold difI at e
  rw [Bool.or_eq_true] at e
  rcases e with e | e
  · exact difS_ok M rx ry e
  · split at e
    · rename_i c fs c' gs h1 h2
      obtain ⟨p, dx, f1, rfl, h3, h4⟩ := insD_ok M rx h1
      obtain ⟨p', dx', f2, h5, h6, h7⟩ := insD_ok M ry h2
      cases h5
      rw [h3] at h6
      have h8 := Option.some.inj h6
      injection h8 with _ _ h9
      subst h9
      obtain ⟨q, _, hq⟩ := List.any_eq_true.mp e
      split at hq
      · rename_i z w hz hw
        obtain ⟨a, e1, r1⟩ := h4.get hz
        obtain ⟨b, e2, r2⟩ := h7.get hw
        rw [e1] at e2
        cases e2
        exact difS_ok M r1 r2 hq
      · cases hq
    · cases e
/-- of instances by an own method; q: what it answers -/
def ownQ (c : Str) (cs : List Str) (ts : List TD) (q : Vl → Vl → Mem → Option Bool) : Vl → Vl → Mem → Option Bool := fun x y m => match insD m x, tyD m y with
  | some (c', _), some t => if (decide (c' = c) && (ts.contains t && tdOk cs t)) = true then (match q x y m with
    | some b => if (b || difI m x y) = true then some b else none
    | none => none) else none
  | _, _ => none
theorem eq_own {X : Cx} {k : Nat} {c : Str} {cs : List Str} {ts : List TD} {gz : List Vl → List Vl → List Vl} {g : FD} {q : Vl → Vl → Mem → Option Bool} {f : Addr} (hI : InsA X.K cs) (O : OwnM X.K c "__eq__" f ts) (F : Fz X.prog X.w X.K X.mg X.base k f 2 [] gz g)
    (hg : ∀ x y m b, q x y m = some b → g (gz [x, y] []) m = some (.ok (.bl b), m)) : EQ X k (ownQ c cs ts q) := fun A pins s σ ρ m H x y a b u v r sb I ra rb M rx ry e => by
  unfold ownQ at e
  split at e
  · rename_i c' fs t hi ht
    split at e
    · rename_i hc
      rw [Bool.and_eq_true, Bool.and_eq_true, decide_eq_true_eq] at hc
      obtain ⟨rfl, hc1, hc2⟩ := hc
      split at e
      · rename_i b0 hq
        split at e
        · rename_i hd
          cases e
          obtain ⟨p, dx, gs, rfl, h3, h4⟩ := insD_ok M rx hi
          obtain rfl : u = Value.ref p := ra
          by_cases hne : Value.ref p = v
          · subst hne
            have hb : b = .ref p := by
              cases b <;> first | (cases rb; rfl) | (obtain ⟨_, hh⟩ := rb; cases hh) | cases rb
            subst hb
            have hr : r = true := by
              cases r with
              | true => rfl
              | false => exact (difI_ok M rx ry hd).elim
            subst hr
            exact SeqAt.EqAt.same (A := A) (s := s) (.ref p) X.prog X.w X.xe _ ⟨rfl, ρ, H, M, .refl, I⟩
          · refine ZQ.eqBool_ne hne (fun _ _ h => nomatch h) (rc_own (op := .Eq) (EE := fun _ _ _ => False) rfl hI O F sb I h3 rb M rx ry ht hc1 hc2 (hg _ _ _ _ hq) (fun er s' hx => ?_) fun ρ' H' M' E' => ?_)
            · obtain ⟨_, _, _, _, _, _, _, _, _, _, _, _, z⟩ := hx
              exact z.elim
            · intro z w s' rz rw_ I'
              obtain rfl : z = .bl r := rz
              obtain rfl : w = Value.bool r := rw_
              exact ⟨r, rfl, rfl, ρ', H', M', E', I'⟩
        · cases e
      · cases e
    · cases e
  · cases e
/-! x in xs -/
def anyQ (h : Vl → Vl → Mem → Option Bool) (m : Mem) (x : Vl) : List Vl → Option Bool
  | [] => some false
  | y :: ys => (match h y x m with
    | some true => some true
    | some false => anyQ h m x ys
    | none => none)
def inQ (neg : Bool) (h : Vl → Vl → Mem → Option Bool) : F2 := fun x y m => match lisD m y with
  | some ys => (match anyQ h m x ys with
    | some b => some (.bl (if neg = true then !b else b), m)
    | none => none)
  | none => none
section
variable {X : Cx} {k : Nat} {h : Vl → Vl → Mem → Option Bool} {a b e : Expr} {da db : DE} {pos : Pos}
theorem in_run (hq : EQ X k h) (hr : Room (k + 1) X.A) {pins : List (Addr × Obj)} {σ : L2.St} {ρ : Lay} {H : Hp} {m : Mem} {s : Shared} {x y : Vl} {vx vy : V} {u v : Value} {ys : List Vl} {r : Bool} {Q : Bool → Shared → Prop}
    (I : Inv X pins σ H s) (M : RM X.K ρ m H) (rx : RV X.K ρ H x vx) (ry : RV X.K ρ H y vy) (ru : RelV vx u) (rv : RelV vy v) (hy : lisD m y = some ys) (hb : anyQ h m x ys = some r)
    (fin : ∀ ρ' H' s', RM X.K ρ' m H' → Ext ρ H ρ' H' → Inv X pins σ H' s' → Q r s') :
    ∃ l N J G, v = .ref l ∧ ZQ.InI X.prog X.w X.A X.xe l u N J G ∧ (∀ s', G s' → Q true s') ∧ (∀ s', J N s' → Q false s') ∧ J 0 s := by
  obtain ⟨l, vs0, rfl, hs0, hr0⟩ := lisD_ok M ry hy
  obtain rfl : v = Value.ref l := rv
  let St : Shared → Prop := fun s' => ∃ ρ' H', RM X.K ρ' m H' ∧ Ext ρ H ρ' H' ∧ Inv X pins σ H' s'
  refine ⟨l, ys.length, fun i s' => St s' ∧ anyQ h m x (ys.drop i) = some r, fun s' => St s' ∧ r = true, rfl, fun i s' q => ?_, fun s' q => ?_, fun s' q => ?_, ⟨⟨ρ, H, M, .refl, I⟩, hb⟩⟩
  · obtain ⟨⟨ρ1, H1, M1, E1, I1⟩, ha⟩ := q
    obtain ⟨l', vs, hl', hs, hrs⟩ := lisD_ok M1 (ry.mono E1) hy
    cases hl'
    obtain ⟨its, r1, e1, z1⟩ := I1.list hs
    obtain ⟨⟨cls, dd, data, sl⟩, n, h1, h2, _, h3⟩ := e1
    simp only at h2 h3
    subst h2 h3
    refine ⟨its.toArray, n, dd, sl, h1, by rw [List.size_toArray, ← r1.length, ← hrs.length], fun hlt => ?_⟩
    have hlt' : i < ys.length := by rw [hrs.length, r1.length]; simpa using hlt
    have hd : ys.drop i = ys[i] :: ys.drop (i + 1) := List.drop_eq_getElem_cons hlt'
    rw [hd] at ha
    unfold anyQ at ha
    obtain ⟨w, hw1, hw2⟩ := hrs.get (List.getElem?_eq_getElem hlt')
    obtain ⟨u1, hu1, ru1⟩ := r1.get hw1
    have hit : its.toArray[i] = u1 := by
      have h1' : i < its.length := by simpa using hlt
      rw [List.getElem?_eq_getElem h1'] at hu1
      simpa using Option.some.inj hu1
    rw [hit]
    split at ha
    · rename_i hh
      refine wpAny_mono (hq X.A.in1 pins s' σ ρ1 m H1 ys[i] x w vx u1 u true ⟨hr.in1, rfl⟩ I1 ru1 ru M1 hw2 (rx.mono E1) hh) (fun q s2 h2 => ?_) fun _ _ z => z
      obtain ⟨rfl, ρ2, H2, M2, E2, I2⟩ := h2
      exact ⟨fun _ => ⟨⟨ρ2, H2, M2, E1.trans E2, I2⟩, (Option.some.inj ha).symm⟩, fun z => nomatch z⟩
    · rename_i hh
      refine wpAny_mono (hq X.A.in1 pins s' σ ρ1 m H1 ys[i] x w vx u1 u false ⟨hr.in1, rfl⟩ I1 ru1 ru M1 hw2 (rx.mono E1) hh) (fun q s2 h2 => ?_) fun _ _ z => z
      obtain ⟨rfl, ρ2, H2, M2, E2, I2⟩ := h2
      exact ⟨(fun z => nomatch z), fun _ => ⟨⟨ρ2, H2, M2, E1.trans E2, I2⟩, ha⟩⟩
    · cases ha
  · obtain ⟨⟨ρ1, H1, M1, E1, I1⟩, rfl⟩ := q
    exact fin ρ1 H1 s' M1 E1 I1
  · obtain ⟨⟨ρ1, H1, M1, E1, I1⟩, ha⟩ := q
    rw [List.drop_length] at ha
    cases ha
    exact fin ρ1 H1 s' M1 E1 I1
/-- a comparison as a test -/
theorem isTrue_cmp {M : Model} {A : Around} {E : Value → Shared → Prop} {s : Shared} {l r : Expr} {op : CmpOp} {env : Env} {whole : Sem Value} {Q : Bool → Shared → Prop} (h : wpAny M A (eval (.Compare l [op] [r] pos) env) (fun v s' => ∃ k, v = .bool k ∧ Q k s') E s) (hm : behindInMarks op r = false) : wpAny M A (isTrue (.Compare l [op] [r] pos) env whole) Q E s := fun Γ p hΓ => by
  have h' := h Γ p hΓ
  simp only [eval_Compare1, markedBehindIn_of_false hm, Sem.wp_bind', Sem.wp_holding, Sem.wp_cmd_standAt, Sem.wp_operate] at h'
  simp only [isTrue_Compare1, markedBehindIn_of_false hm, Sem.wp_bind', Sem.wp_holding, Sem.wp_cmd_standAt, Sem.wp_operate]
  refine Sem.wp_mono M Γ _ (fun a p₁ s₁ h₁ => Sem.wp_mono M Γ _ (fun b p2 s₂ h₂ => Sem.wp_mono M Γ _ (fun c p₃ s₃ h₃ => ?_) (fun _ _ _ h' => h') _ _ h₂) (fun _ _ _ h' => h') _ _ h₁) (fun _ _ _ h' => h') _ _ h'
  obtain ⟨k, rfl, q⟩ := h₃
  exact wpAny_truthy_bool q Γ p₃ hΓ
theorem st_cmpE {op : CmpOp} {de : DE} (h : SE X (.Compare a [op] [b] pos) de) (hm : behindInMarks op b = false := by rfl) : ST X (.Compare a [op] [b] pos) (tB' de) := ⟨fun W tk => ⟨fun pins s σ H Q I x => by
  obtain ⟨ρ, env, m, z, m', s0, e, p⟩ := x
  have x' : rdE X.K W de σ H (fun v H1 => ∃ k, v = .bl k ∧ Q k H1) := bindE s0 e p fun x m1 ρ1 H1 v s1 E1 r1 e1 p1 => by
    split at e1
    · rename_i k
      cases e1
      exact ⟨k, r1, p1 ρ1 H1 s1.mem .refl k rfl⟩
    · cases e1
  refine isTrue_cmp (thn ((h.run W tk).run pins s σ H _ I x') fun u s1 ⟨x, H1, I1, rx, k, ex, q⟩ => ?_) hm
  subst ex
  exact ⟨k, rx, H1, I1, q⟩⟩⟩
theorem se_inQ (hq : EQ X k h) (hr : Room (k + 1) X.A) (ha : SE X a da) (hb : SE X b db) (hm : behindInMarks .In b = false := by rfl) : SE X (.Compare a [.In] [b] pos) (d2 (inQ false h) da db) := se_cmp (r := fun v u H Q => ∀ (pins : List (Addr × Obj)) (σ : L2.St) (s : Shared) (uv uu : Value), Inv X pins σ H s → RelV v uv → RelV u uu → wpAny (model X.prog X.w) X.A (compareOp .In uv uu) (EP X pins σ Q) X.xe s)
  (fun pins s σ H x y v u Q I rx ry hh => hh pins σ s v u I rx ry) (fun ρ m H x y v u z m' Q M rx ry e k2 pins σ s uv uu I r1 r2 => by
    unfold inQ at e
    split at e
    · rename_i ys hy
      split at e
      · rename_i r hb
        cases e
        obtain ⟨l, N, J, G, rfl, h1, h2, h3, h4⟩ := in_run (Q := fun r s' => EP X pins σ Q (.bool r) s') hq hr I M rx ry r1 r2 hy hb fun ρ' H' s' M' E' I' => ⟨.bl r, H', I', rfl, k2 ρ' H' _ M' E' rfl⟩
        exact ZQ.in_listZ J G h1 h2 h3 h4
      · cases e
    · cases e) ha hb hm
theorem se_notinQ (hq : EQ X k h) (hr : Room (k + 1) X.A) (ha : SE X a da) (hb : SE X b db) (hm : behindInMarks .NotIn b = false := by rfl) : SE X (.Compare a [.NotIn] [b] pos) (d2 (inQ true h) da db) := se_cmp (r := fun v u H Q => ∀ (pins : List (Addr × Obj)) (σ : L2.St) (s : Shared) (uv uu : Value), Inv X pins σ H s → RelV v uv → RelV u uu → wpAny (model X.prog X.w) X.A (compareOp .NotIn uv uu) (EP X pins σ Q) X.xe s)
  (fun pins s σ H x y v u Q I rx ry hh => hh pins σ s v u I rx ry) (fun ρ m H x y v u z m' Q M rx ry e k2 pins σ s uv uu I r1 r2 => by
    unfold inQ at e
    split at e
    · rename_i ys hy
      split at e
      · rename_i r hb
        cases e
        obtain ⟨l, N, J, G, rfl, h1, h2, h3, h4⟩ := in_run (Q := fun r s' => EP X pins σ Q (.bool (!r)) s') hq hr I M rx ry r1 r2 hy hb fun ρ' H' s' M' E' I' => ⟨.bl (!r), H', I', rfl, k2 ρ' H' _ M' E' rfl⟩
        exact ZQ.notIn_listZ J G h1 h2 h3 h4
      · cases e
    · cases e) ha hb hm
/-! ### repr -/
/-! a bound of a text's length, reckoned without the text -/
mutual
def shB : PyData → Nat
  | .list xs => shBs xs + 4
  | .tuple xs => shBs xs + 4
  | .none => 4
  | .bool _ => 5
  | .int i => (PyData.shown (.int i)).length
  | .str x => (PyData.shown (.str x)).length
  | .dict kvs => (PyData.shown (.dict kvs)).length
def shBs : List PyData → Nat
  | [] => 0
  | x :: xs => shB x + 2 + shBs xs
end
theorem textFrom_le : ∀ (ts : List Str) (k : Nat) (acc : Str), (textFrom k acc ts).length ≤ acc.length + piled ts
  | [], _, acc => Nat.le_add_right _ _
  | t :: r, k, acc => by
    have ih := textFrom_le r (k + 1) (acc ++ (if k > 0 then ", " else "" : String) ++ t)
    have e : (acc ++ (if k > 0 then ", " else "" : String) ++ t).length ≤ acc.length + 2 + t.length := by
      rw [strLen_append, strLen_append]
      split <;> exact Nat.add_le_add_right (Nat.add_le_add_left (by decide) _) _
    rw [piled_cons]
    show (textFrom (k + 1) _ r).length ≤ _
    omega
theorem listText_le (ts : List Str) : (listText ts).length ≤ piled ts + 4 := by
  have h := textFrom_le ts 0 "["
  have e1 : ((("[" : String) : Str)).length = 1 := rfl
  have e2 : ((("]" : String) : Str)).length = 1 := rfl
  unfold listText
  rw [strLen_append, e2]
  rw [e1] at h
  omega
theorem tupleText_le (ts : List Str) : (tupleText ts).length ≤ piled ts + 4 := by
  unfold tupleText
  rw [strLen_append, strLen_append]
  have e1 : ((("(" : String) : Str)).length = 1 := rfl
  have e3 : (((if ts.length == 1 then ",)" else ")" : String) : Str)).length ≤ 2 := by split <;> decide
  rw [e1]
  by_cases h : ts = []
  · subst h
    have : (Str.join ((", " : String) : Str) []).length = 0 := rfl
    simp only [piled_nil, this]
    omega
  · have := join_length_add ts h
    omega
mutual
theorem shown_le : ∀ d : PyData, d.shown.length ≤ shB d
  | .list xs => Nat.le_trans (listText_le _) (Nat.add_le_add_right (shownAll_le xs) 4)
  | .tuple xs => Nat.le_trans (tupleText_le _) (Nat.add_le_add_right (shownAll_le xs) 4)
  | .none => by show (PyData.shown .none).length ≤ 4; decide
  | .bool b => by cases b <;> (show (PyData.shown (.bool _)).length ≤ 5) <;> decide
  | .int i => Nat.le_refl _
  | .str x => Nat.le_refl _
  | .dict kvs => Nat.le_refl _
theorem shownAll_le : ∀ xs : List PyData, piled (PyData.shownAll xs) ≤ shBs xs
  | [] => Nat.le_refl _
  | x :: xs => by
    show piled (PyData.shown x :: PyData.shownAll xs) ≤ shB x + 2 + shBs xs
    rw [piled_cons]
    have h1 := shown_le x
    have h2 := shownAll_le xs
    omega
end
def reprF : FB := fun xs m => match xs with
  | [x] => (match toDm m x with
    | some d => if (PyData.showable d && !PyData.hasDict d && decide (d.depth ≤ 60) && decide (shB d ≤ sizeLine)) = true then some (.str d.shown, m) else none
    | none => none)
  | _ => none
theorem call_reprD (hr : Room 0 X.A) : CallR X (.builtin "repr") (fun xs H Q => ∃ x d, xs = [x] ∧ Dp X.K H x d ∧ PyData.showable d = true ∧ PyData.hasDict d = false ∧ d.depth ≤ 60 ∧ d.shown.length ≤ sizeLine ∧ Q (.str d.shown) H) := by
  intro pins s σ H xs us Q I r hh
  obtain ⟨x, d, rfl, hd, h1, h2, h3, h4, q⟩ := hh
  obtain ⟨u, rfl, ru⟩ := vals1 r
  have fin : ∀ {h' : Heap} {t tk : Tok}, (∀ b o, s.heap.get? b = some o → h'.get? b = some o) → EP X pins σ Q (.str d.shown t) { s with heap := h', toks := tk } := fun hk => ⟨.str d.shown, H, I.kept hk, ⟨_, rfl⟩, q⟩
  have huu := hr.units
  cases hd with
  | non =>
    cases ru
    rw [PyData.shown_none] at q h4
    exact PySem.P.repr_of_none ⟨.str _, H, I.tok _, ⟨_, rfl⟩, q⟩
  | bl b =>
    cases ru
    rw [PyData.shown_bool] at q h4
    exact PySem.P.repr_of_bool ⟨.str _, H, I.tok _, ⟨_, rfl⟩, q⟩
  | int i =>
    obtain ⟨t, rfl⟩ := ru
    rw [PyData.shown_int] at q h4
    exact PySem.P.repr_of_int (by simpa [PyData.showable] using h1) ⟨.str _, H, I.tok _, ⟨_, rfl⟩, q⟩
  | str y =>
    obtain ⟨t, rfl⟩ := ru
    rw [PyData.shown_str] at q h4
    exact PySem.P.repr_of_str ⟨.str _, H, I.tok _, ⟨_, rfl⟩, q⟩ h4
  | lst hs ha =>
    rename_i a vs ds
    obtain rfl : u = Value.ref a := ru
    obtain ⟨as, r1⟩ := Dp.reads I (.list ds) (.ref a) (.ref a) (.lst hs ha) rfl
    exact repr_of_reads' r1 h1 (fun e => by rw [h2] at e; cases e) hr.gd (by omega) (fun _ _ e => e) (fun h' t tk hk => fin hk) h4
  | tup hs ha =>
    rename_i a vs ds
    obtain rfl : u = Value.ref a := ru
    obtain ⟨as, r1⟩ := Dp.reads I (.tuple ds) (.ref a) (.ref a) (.tup hs ha) rfl
    exact repr_of_reads' r1 h1 (fun e => by rw [h2] at e; cases e) hr.gd (by omega) (fun _ _ e => e) (fun h' t tk hk => fin hk) h4
theorem scf_repr {K : PySem.W.Frag} : SCF K reprF (fun xs H Q => ∃ x d, xs = [x] ∧ Dp K H x d ∧ PyData.showable d = true ∧ PyData.hasDict d = false ∧ d.depth ≤ 60 ∧ d.shown.length ≤ sizeLine ∧ Q (.str d.shown) H) := fun ρ m H xs vs z m' Q M a e k => by
  unfold reprF at e
  split at e
  · rename_i x
    split at e
    · rename_i d hd
      split at e
      · rename_i c
        cases e
        simp only [Bool.and_eq_true, Bool.not_eq_true', decide_eq_true_eq] at c
        obtain ⟨v, s, rfl, h1, h2⟩ := a
        subst h2
        exact ⟨v, d, rfl, toDm_ok M h1 hd, c.1.1.1, c.1.1.2, c.1.2, Nat.le_trans (shown_le d) c.2, k ρ H _ M .refl rfl⟩
      · cases e
    · cases e
  · cases e
theorem se_repr {p pos : Pos} {es : List Expr} {e : Expr} {d : DA} (hr : Room 0 X.A) (hg : Gl X "repr") (hm : X.mg "repr" = none) (ha : SA X (e :: es) d) (he : starEach (e :: es) X.env = (false, eval e X.env) :: starEach es X.env := by rfl) (hpl : (backTo pos (starEach es X.env)).any (·.1) = false := by rfl) :
    SE X (.Call (.Name "repr" p) (e :: es) [] pos) (dB reprF d) := se_callB (call_reprD hr) scf_repr hg hm (by decide +kernel) ha (by decide) (by decide) he hpl
/-! ### constants of classes -/
def dCV (c : Str) (y : Vl) (de : DE) : DE := fun env m => bindR (de env m) fun x m => match x with
  | .glo c' => if c' = c then some (.ok y, m) else none
  | _ => none
theorem se_cval {c f : Str} {mc : Value} {y : Vl} {v : V} {u : Value} {de : DE} (he : SE X e de) (r : ClX.CRead X.K (He.ga X.K c) mc) (kv : ClX.CVal X.K (He.ga X.K c) mc f v u) (ry : ∀ ρ H, RV X.K ρ H y v) (hab : attributeBase e f X.env (eval e X.env) = eval e X.env := by rfl) : SE X (.Attribute e f pos) (dCV c y de) := ⟨fun W tk =>
  impPE (ClX.pe_cval (he.run W tk) hab) fun σ H Q ⟨ρ, env, m, z, m', s, e, p⟩ => bindE s e p fun x m1 ρ1 H1 w s1 E1 r1 e1 p1 => by
    split at e1
    · rename_i c'
      split at e1
      · rename_i hc
        subst hc
        cases e1
        exact ⟨_, mc, v, u, r1, r, kv, p1 ρ1 H1 s1.mem .refl v (ry _ _)⟩
      · cases e1
    · cases e1⟩
end
end Z
namespace Z
open PySem PySem.Spec PyProof.Rows L2
/-! ### a call in a memory of its own: what it makes is told as values, but for the kept cells -/
def mapO {α β : Type} (f : α → Option β) : List α → Option (List β)
  | [] => some []
  | x :: xs => (match f x with
    | some y => (match mapO f xs with
      | some ys => some (y :: ys)
      | none => none)
    | none => none)
def mapP {κ α β : Type} (f : α → Option β) : List (κ × α) → Option (List (κ × β))
  | [] => some []
  | (k, x) :: xs => (match f x with
    | some y => (match mapP f xs with
      | some ys => some ((k, y) :: ys)
      | none => none)
    | none => none)
def posN (n : Nat) : List Nat → Option Nat
  | [] => none
  | k :: ks => if n = k then some 0 else (match posN n ks with
    | some i => some (i + 1)
    | none => none)
def cnv (keep : List Nat) (b : Nat) (m : Mem) : Nat → Vl → Option Vl
  | 0, _ => none
  | f + 1, x => (match x with
    | .obj n => (match posN n keep with
      | some i => some (.obj (b + i))
      | none => (match m[n]? with
        | some (.lst xs) => (mapO (cnv keep b m f) xs).map .lst
        | some (.dic xs) => (mapP (cnv keep b m f) xs).map .dic
        | some (.dit xs) => (mapP (cnv keep b m f) xs).map .dit
        | some (.ins c xs) => (mapP (cnv keep b m f) xs).map (.ins c)
        | none => none))
    | .tup xs => (mapO (cnv keep b m f) xs).map .tup
    | .lst xs => (mapO (cnv keep b m f) xs).map .lst
    | .frl xs => (mapO (cnv keep b m f) xs).map .frl
    | .dic xs => (mapP (cnv keep b m f) xs).map .dic
    | .dit xs => (mapP (cnv keep b m f) xs).map .dit
    | .ins c xs => (mapP (cnv keep b m f) xs).map (.ins c)
    | .err c xs => (mapP (cnv keep b m f) xs).map (.err c)
    | y => some y)
def cnvC (keep : List Nat) (b : Nat) (m : Mem) (f : Nat) : Cell → Option Cell
  | .lst xs => (mapO (cnv keep b m f) xs).map .lst
  | .dic xs => (mapP (cnv keep b m f) xs).map .dic
  | .dit xs => (mapP (cnv keep b m f) xs).map .dit
  | .ins c xs => (mapP (cnv keep b m f) xs).map (.ins c)
section
variable {K : PySem.W.Frag} {ρ ρ1 ρ' : Lay} {H H1 : Hp} {m m1 : Mem} {keep : List Nat} {b : Nat}
/-- how the new layout stands to the callee's -/
structure Tel (ρ1 ρ' : Lay) (H1 : Hp) (keep : List Nat) (b : Nat) : Prop where
  hz : ∀ a, a ∈ ρ1.z → a ∈ ρ'.z ∧ a ∉ ρ'.c
  hk : ∀ n i a, posN n keep = some i → ρ1.c[n]? = some a → ρ'.c[b + i]? = some a
  hn : ∀ n a, posN n keep = none → ρ1.c[n]? = some a → a ∈ ρ'.z ∧ a ∉ ρ'.c
  ht : ∀ a u, H1 a = some u → a ∈ ρ'.c → cellK u = true
theorem map_some {α β : Type} {f : α → β} {o : Option α} {y : β} (h : o.map f = some y) : ∃ x, o = some x ∧ y = f x := by
  cases o with
  | none => cases h
  | some x => cases h; exact ⟨x, rfl, rfl⟩
theorem rvs_map {g : Vl → Option Vl} (ih : ∀ (x y : Vl) (v : V), g x = some y → RV K ρ1 H1 x v → RV K ρ' H1 y v) : ∀ {xs ys : List Vl} {vs : List V}, mapO g xs = some ys → RVs K ρ1 H1 xs vs → RVs K ρ' H1 ys vs
  | [], _, _, e, r => by cases e; exact r
  | x :: xs, _, _, e, ⟨v, r, h1, h2, h3⟩ => by
    unfold mapO at e
    split at e
    · rename_i y hy
      split at e
      · rename_i ys hys
        cases e
        exact ⟨v, r, h1, ih _ _ _ hy h2, rvs_map ih hys h3⟩
      · cases e
    · cases e
theorem rks_map {g : Vl → Option Vl} (ih : ∀ (x y : Vl) (v : V), g x = some y → RV K ρ1 H1 x v → RV K ρ' H1 y v) : ∀ {xs ys : List (Key × Vl)} {vs : List (Key × V)}, mapP g xs = some ys → RKs K ρ1 H1 xs vs → RKs K ρ' H1 ys vs
  | [], _, _, e, r => by cases e; exact r
  | (k, x) :: xs, _, _, e, ⟨v, r, h1, h2, h3⟩ => by
    unfold mapP at e
    split at e
    · rename_i y hy
      split at e
      · rename_i ys hys
        cases e
        exact ⟨v, r, h1, ih _ _ _ hy h2, rks_map ih hys h3⟩
      · cases e
    · cases e
theorem rts_map {g : Vl → Option Vl} (ih : ∀ (x y : Vl) (v : V), g x = some y → RV K ρ1 H1 x v → RV K ρ' H1 y v) : ∀ {xs ys : List (List Key × Vl)} {vs : List (List Key × V)}, mapP g xs = some ys → RTs K ρ1 H1 xs vs → RTs K ρ' H1 ys vs
  | [], _, _, e, r => by cases e; exact r
  | (k, x) :: xs, _, _, e, ⟨v, r, h1, h2, h3⟩ => by
    unfold mapP at e
    split at e
    · rename_i y hy
      split at e
      · rename_i ys hys
        cases e
        exact ⟨v, r, h1, ih _ _ _ hy h2, rts_map ih hys h3⟩
      · cases e
    · cases e
theorem rfs_map {g : Vl → Option Vl} (ih : ∀ (x y : Vl) (v : V), g x = some y → RV K ρ1 H1 x v → RV K ρ' H1 y v) : ∀ {xs ys : List (Str × Vl)} {vs : List (Str × V)}, mapP g xs = some ys → RFs K ρ1 H1 xs vs → RFs K ρ' H1 ys vs
  | [], _, _, e, r => by cases e; exact r
  | (k, x) :: xs, _, _, e, ⟨v, r, h1, h2, h3⟩ => by
    unfold mapP at e
    split at e
    · rename_i y hy
      split at e
      · rename_i ys hys
        cases e
        exact ⟨v, r, h1, ih _ _ _ hy h2, rfs_map ih hys h3⟩
      · cases e
    · cases e
theorem cnv_ok (T : Tel ρ1 ρ' H1 keep b) (M : RM K ρ1 m1 H1) : ∀ (f : Nat) (x y : Vl) (v : V), cnv keep b m1 f x = some y → RV K ρ1 H1 x v → RV K ρ' H1 y v
  | 0, _, _, _, e, _ => by cases e
  | f + 1, x, y, v, e, r => by
    have ih := cnv_ok T M f
    have nt : ∀ {a : Addr} {u : HO}, Rd H1 a u → (∀ o, cellK (.frz o u) = false) → cellK u = false → a ∉ ρ'.c := fun {a u} h1 h2 h3 hc => by
      rcases h1 with h1 | ⟨o, h1⟩
      · rw [T.ht a u h1 hc] at h3; cases h3
      · have := T.ht a _ h1 hc; rw [h2 o] at this; cases this
    unfold cnv at e
    cases x with
    | obj n =>
      obtain ⟨a, rfl, ha⟩ := r
      simp only at e
      split at e
      · rename_i i hi
        cases e
        exact ⟨a, rfl, T.hk n i a hi ha⟩
      · rename_i hi
        obtain ⟨q1, q2⟩ := T.hn n a hi ha
        split at e
        · rename_i xs hx
          obtain ⟨ys, h1, rfl⟩ := map_some e
          obtain ⟨vs, h2, h3⟩ := M.at_ _ _ _ hx ha
          exact ⟨a, vs, rfl, ⟨q1, q2⟩, h2, rvs_map ih h1 h3⟩
        · rename_i xs hx
          obtain ⟨ys, h1, rfl⟩ := map_some e
          obtain ⟨vs, h2, h3⟩ := M.at_ _ _ _ hx ha
          exact ⟨a, vs, rfl, ⟨q1, q2⟩, h2, rks_map ih h1 h3⟩
        · rename_i xs hx
          obtain ⟨ys, h1, rfl⟩ := map_some e
          obtain ⟨vs, h2, h3⟩ := M.at_ _ _ _ hx ha
          exact ⟨a, vs, rfl, ⟨q1, q2⟩, h2, rts_map ih h1 h3⟩
        · rename_i c xs hx
          obtain ⟨ys, h1, rfl⟩ := map_some e
          obtain ⟨dx, vs, h2, h3⟩ := M.at_ _ _ _ hx ha
          exact ⟨a, dx, vs, rfl, ⟨q1, q2⟩, h2, rfs_map ih h1 h3⟩
        · cases e
    | tup xs =>
      obtain ⟨ys, h1, rfl⟩ := map_some e
      obtain ⟨a, vs, rfl, h2, h3⟩ := r
      exact ⟨a, vs, rfl, h2.elim (fun h => .inl ⟨nt h.2 (fun _ => rfl) rfl, h.2⟩) .inr, rvs_map ih h1 h3⟩
    | frl xs =>
      obtain ⟨ys, h1, rfl⟩ := map_some e
      obtain ⟨a, vs, rfl, h2, h3⟩ := r
      refine ⟨a, vs, rfl, h2.elim (fun h => .inl ⟨fun hc => ?_, h.2⟩) .inr, rvs_map ih h1 h3⟩
      obtain ⟨o, ho⟩ := h.2
      have := T.ht a _ ho hc
      cases this
    | lst xs =>
      obtain ⟨ys, h1, rfl⟩ := map_some e
      obtain ⟨a, vs, rfl, n, h2, h3⟩ := r
      exact ⟨a, vs, rfl, T.hz a n.1, h2, rvs_map ih h1 h3⟩
    | dic xs =>
      obtain ⟨ys, h1, rfl⟩ := map_some e
      obtain ⟨a, vs, rfl, n, h2, h3⟩ := r
      exact ⟨a, vs, rfl, T.hz a n.1, h2, rks_map ih h1 h3⟩
    | dit xs =>
      obtain ⟨ys, h1, rfl⟩ := map_some e
      obtain ⟨a, vs, rfl, n, h2, h3⟩ := r
      exact ⟨a, vs, rfl, T.hz a n.1, h2, rts_map ih h1 h3⟩
    | ins c xs =>
      obtain ⟨ys, h1, rfl⟩ := map_some e
      obtain ⟨a, dx, vs, rfl, n, h2, h3⟩ := r
      exact ⟨a, dx, vs, rfl, T.hz a n.1, h2, rfs_map ih h1 h3⟩
    | non => cases e; exact r
    | bl _ => cases e; exact r
    | int _ => cases e; exact r
    | str _ => cases e; exact r
    | ty _ => cases e; exact r
    | glo _ => cases e; exact r
    | err c xs =>
      obtain ⟨ys, h1, rfl⟩ := map_some e
      obtain ⟨a, d, gs, rfl, n, h2, h3, h4⟩ := r
      refine ⟨a, d, gs, rfl, fun hc => ?_, h2, h3.elim (fun ⟨dd, q1, q2, q3⟩ => .inl ⟨dd, q1, fun hc => ?_, q3⟩) .inr, rfs_map ih h1 h4⟩
      · have := T.ht a _ h2 hc
        cases this
      · have := T.ht dd _ q3 hc
        cases this
theorem cnvC_ok (T : Tel ρ1 ρ' H1 keep b) (M : RM K ρ1 m1 H1) {f : Nat} {a : Addr} : ∀ {c c' : Cell}, cnvC keep b m1 f c = some c' → RC K ρ1 H1 a c → RC K ρ' H1 a c'
  | .lst xs, _, e, ⟨vs, h1, h2⟩ => by
    obtain ⟨ys, h3, rfl⟩ := map_some e
    exact ⟨vs, h1, rvs_map (cnv_ok T M f) h3 h2⟩
  | .dic xs, _, e, ⟨vs, h1, h2⟩ => by
    obtain ⟨ys, h3, rfl⟩ := map_some e
    exact ⟨vs, h1, rks_map (cnv_ok T M f) h3 h2⟩
  | .dit xs, _, e, ⟨vs, h1, h2⟩ => by
    obtain ⟨ys, h3, rfl⟩ := map_some e
    exact ⟨vs, h1, rts_map (cnv_ok T M f) h3 h2⟩
  | .ins c xs, _, e, ⟨dx, vs, h1, h2⟩ => by
    obtain ⟨ys, h3, rfl⟩ := map_some e
    exact ⟨dx, vs, h1, rfs_map (cnv_ok T M f) h3 h2⟩
theorem RC.kind {a : Addr} : ∀ {c : Cell}, RC K ρ H a c → ∃ u, H a = Option.some u ∧ cellK u = true
  | .lst _, ⟨_, h, _⟩ => ⟨_, h, rfl⟩
  | .dic _, ⟨_, h, _⟩ => ⟨_, h, rfl⟩
  | .dit _, ⟨_, h, _⟩ => ⟨_, h, rfl⟩
  | .ins _ _, ⟨_, _, h, _⟩ => ⟨_, h, rfl⟩
theorem RM.kind (M : RM K ρ m H) {a : Addr} (ha : a ∈ ρ.c) : ∃ u, H a = Option.some u ∧ cellK u = true := by
  obtain ⟨n, hn⟩ := List.mem_iff_getElem?.mp ha
  have hl : n < m.length := by rw [← M.len]; exact (List.getElem?_eq_some_iff.mp hn).1
  exact RC.kind (M.at_ n m[n] a (by simp [hl]) hn)
theorem posN_some : ∀ {keep : List Nat} {n i : Nat}, posN n keep = some i → keep[i]? = some n
  | [], _, _, e => by cases e
  | k :: ks, n, i, e => by
    unfold posN at e
    split at e
    · rename_i h
      cases e
      rw [h]
      rfl
    · split at e
      · rename_i j hj
        cases e
        have := posN_some hj
        simpa using this
      · cases e
theorem posN_none : ∀ {keep : List Nat} {n : Nat}, posN n keep = none → n ∉ keep
  | [], _, _ => by simp
  | k :: ks, n, e => by
    unfold posN at e
    split at e
    · cases e
    · rename_i h
      split at e
      · cases e
      · rename_i hj
        intro z
        rcases List.mem_cons.mp z with z | z
        · exact h z
        · exact posN_none hj z
/-- the cells that are kept -/
def cellsK (keep : List Nat) (b : Nat) (m1 : Mem) (fu : Nat) : Option (List Cell) := mapO (fun n => match m1[n]? with
  | some c => cnvC keep b m1 fu c
  | none => none) keep
theorem mapO_len {α β : Type} {f : α → Option β} : ∀ {xs : List α} {ys : List β}, mapO f xs = some ys → ys.length = xs.length
  | [], _, e => by cases e; rfl
  | x :: xs, _, e => by
    unfold mapO at e
    split at e
    · split at e
      · rename_i ys hys
        cases e
        rw [List.length_cons, List.length_cons, mapO_len hys]
      · cases e
    · cases e
theorem mapO_get {α β : Type} {f : α → Option β} : ∀ {xs : List α} {ys : List β} {i : Nat} {y : β}, mapO f xs = some ys → ys[i]? = some y → ∃ x, xs[i]? = some x ∧ f x = some y
  | [], _, _, _, e, h => by cases e; simp at h
  | x :: xs, _, i, y, e, h => by
    unfold mapO at e
    split at e
    · rename_i z hz
      split at e
      · rename_i ys hys
        cases e
        cases i with
        | zero =>
          simp at h
          subst h
          exact ⟨x, rfl, hz⟩
        | succ i => exact mapO_get (i := i) hys (by simpa using h)
      · cases e
    · cases e
theorem mapO_dom {α β : Type} {f : α → Option β} : ∀ {xs : List α} {ys : List β} {x : α}, mapO f xs = some ys → x ∈ xs → ∃ y, f x = some y
  | [], _, _, _, h => nomatch h
  | z :: xs, _, x, e, h => by
    unfold mapO at e
    split at e
    · rename_i y hy
      split at e
      · rename_i ys hys
        rcases List.mem_cons.mp h with rfl | h
        · exact ⟨y, hy⟩
        · exact mapO_dom hys h
      · cases e
    · cases e
theorem fresh_lay {cs : List Cell} {fu : Nat} (M : RM K ρ m H) (M1 : RM K ρ1 m1 H1) (E : Ext ⟨[], ρ.z⟩ H ρ1 H1) (nd : keep.Nodup) (hc : cellsK keep m.length m1 fu = some cs) :
    ∃ ρ', RM K ρ' (m ++ cs) H1 ∧ Ext ρ H ρ' H1 ∧ Tel ρ1 ρ' H1 keep m.length := by
  have valid : ∀ n, n ∈ keep → ∃ c, m1[n]? = some c := fun n hn => by
    obtain ⟨y, hy⟩ := mapO_dom hc hn
    split at hy
    · rename_i c hc'
      exact ⟨c, hc'⟩
    · cases hy
  have adr : ∀ n, n ∈ keep → ρ1.c[n]? = some (ρ1.c.getD n 0) := fun n hn => by
    obtain ⟨c, h⟩ := valid n hn
    obtain ⟨a, ha⟩ := M1.adr h
    rw [List.getD_eq_getElem?_getD, ha]
    rfl
  let kept := keep.map fun n => ρ1.c.getD n 0
  have kin : ∀ a, a ∈ kept → a ∈ ρ1.c := fun a ha => by
    obtain ⟨n, hn, rfl⟩ := List.mem_map.mp ha
    exact List.mem_of_getElem? (adr n hn)
  have knd : kept.Nodup := by
    show (keep.map _).Nodup
    rw [List.Nodup, List.pairwise_map]
    refine List.Pairwise.imp_of_mem (fun {x y} hx hy hne he => ?_) nd
    exact M1.ne (adr x hx) (adr y hy) hne he
  have new1 : ∀ a, a ∈ ρ1.c → H a = none := fun a ha => (E.oldc a ha).elim (fun h => nomatch h) id
  have cin : ∀ a, a ∈ ρ.c → H a ≠ none := fun a ha => by
    obtain ⟨o, ho⟩ := M.some ha
    rw [ho]
    exact fun h => nomatch h
  have kpt : ∀ a o, H a = some o → H1 a = some o := fun a o ha => E.keep a o ha (fun h => nomatch h)
  have zout : ∀ a, a ∈ ρ1.z → a ∉ ρ.c := fun a ha hc => by
    rcases E.oldz a ha with h | h
    · exact (M.zt a h).1 hc
    · exact cin a hc h
  have mk : ∀ a, a ∈ kept ↔ a ∈ keep.map fun n => ρ1.c.getD n 0 := fun a => Iff.rfl
  have memz : ∀ a, a ∈ ((ρ1.z ++ ρ1.c).filter fun a => !kept.contains a) ↔ (a ∈ ρ1.z ∨ a ∈ ρ1.c) ∧ a ∉ kept := by
    intro a
    rw [List.mem_filter, List.mem_append]
    simp
  have E' : Ext ρ H ⟨ρ.c ++ kept, (ρ1.z ++ ρ1.c).filter fun a => !kept.contains a⟩ H1 := by
    refine ⟨List.prefix_append _ _, fun a ha => (memz a).mpr ⟨.inl (E.zin a ha), fun hk => ?_⟩, fun a o h _ => kpt a o h, fun a o h => ⟨o, kpt a o h⟩, fun a ha => ?_, fun a ha => ?_⟩
    · obtain ⟨o, ho⟩ := (M.zt a ha).2
      rw [new1 a (kin a hk)] at ho
      cases ho
    · rcases List.mem_append.mp ha with h | h
      · exact .inl h
      · exact .inr (new1 a (kin a h))
    · rcases ((memz a).mp ha).1 with h | h
      · exact E.oldz a h
      · exact .inr (new1 a h)
  have T : Tel ρ1 ⟨ρ.c ++ kept, (ρ1.z ++ ρ1.c).filter fun a => !kept.contains a⟩ H1 keep m.length := by
    refine ⟨fun a ha => ⟨(memz a).mpr ⟨.inl ha, fun hk => (M1.zt a ha).1 (kin a hk)⟩, fun hc => ?_⟩, fun n i a hi ha => ?_, fun n a hi ha => ⟨(memz a).mpr ⟨.inr (List.mem_of_getElem? ha), fun hk => ?_⟩, fun hc => ?_⟩, fun a u hu hc => ?_⟩
    · rcases List.mem_append.mp hc with h | h
      · exact zout a ha h
      · exact (M1.zt a ha).1 (kin a h)
    · have hk := posN_some hi
      show (ρ.c ++ kept)[m.length + i]? = some a
      rw [← M.len, List.getElem?_append_right (Nat.le_add_right _ _), Nat.add_sub_cancel_left]
      show (keep.map _)[i]? = some a
      rw [List.getElem?_map, hk]
      rw [adr n (List.mem_of_getElem? hk)] at ha
      exact ha
    · obtain ⟨n', hn', e⟩ := List.mem_map.mp hk
      have h1 := adr n' hn'
      rw [e] at h1
      by_cases q : n = n'
      · subst q
        exact posN_none hi hn'
      · exact M1.ne ha h1 q rfl
    · rcases List.mem_append.mp hc with h | h
      · exact cin a h (new1 a (List.mem_of_getElem? ha))
      · obtain ⟨n', hn', e⟩ := List.mem_map.mp h
        have h1 := adr n' hn'
        rw [e] at h1
        by_cases q : n = n'
        · subst q
          exact posN_none hi hn'
        · exact M1.ne ha h1 q rfl
    · rcases List.mem_append.mp hc with h | h
      · obtain ⟨u', h1, h2⟩ := M.kind h
        rw [kpt a u' h1] at hu
        cases hu
        exact h2
      · obtain ⟨u', h1, h2⟩ := M1.kind (kin a h)
        rw [h1] at hu
        cases hu
        exact h2
  refine ⟨⟨ρ.c ++ kept, (ρ1.z ++ ρ1.c).filter fun a => !kept.contains a⟩, ⟨?_, ?_, fun n c a h1 h2 => ?_, fun a ha => ?_⟩, E', T⟩
  · show (ρ.c ++ kept).Nodup
    rw [List.nodup_append]
    exact ⟨M.nd, knd, fun a ha b hb e => by subst e; exact cin a ha (new1 a (kin a hb))⟩
  · show (ρ.c ++ kept).length = (m ++ cs).length
    rw [List.length_append, List.length_append, M.len, mapO_len hc, List.length_map]
  · by_cases hn : n < m.length
    · rw [List.getElem?_append_left hn] at h1
      have h2' : (ρ.c ++ kept)[n]? = some a := h2
      rw [List.getElem?_append_left (by rw [M.len]; exact hn)] at h2'
      exact (M.at_ n c a h1 h2').mono E' (fun o ho => kpt a o ho)
    · have hn' : m.length ≤ n := Nat.le_of_not_lt hn
      rw [List.getElem?_append_right hn'] at h1
      have h2' : (ρ.c ++ kept)[n]? = some a := h2
      rw [List.getElem?_append_right (by rw [M.len]; exact hn'), M.len] at h2'
      obtain ⟨q, hq1, hq2⟩ := mapO_get hc h1
      have h3 : (keep.map fun n => ρ1.c.getD n 0)[n - m.length]? = some a := h2'
      rw [List.getElem?_map, hq1] at h3
      have h4 : ρ1.c.getD q 0 = a := Option.some.inj h3
      have h5 := adr q (List.mem_of_getElem? hq1)
      rw [h4] at h5
      split at hq2
      · rename_i c0 hc0
        exact cnvC_ok T M1 hq2 (M1.at_ q c0 a hc0 h5)
      · cases hq2
  · obtain ⟨h1, h2⟩ := (memz a).mp ha
    refine ⟨fun hc => ?_, h1.elim (fun h => (M1.zt a h).2) fun h => M1.some h⟩
    rcases List.mem_append.mp hc with h | h
    · rcases h1 with h1 | h1
      · exact zout a h1 h
      · exact cin a h (new1 a h1)
    · exact h2 h
/-- the callee's view: no cell of the caller -/
theorem RM.empty (M : RM K ρ m H) : RM K ⟨[], ρ.z⟩ [] H := ⟨List.nodup_nil, rfl, fun n c a h _ => by simp at h, fun a ha => ⟨(fun h => nomatch h), (M.zt a ha).2⟩⟩
mutual
theorem RV.alone : ∀ (x : Vl) {v : V}, RV K ρ H x v → clo 0 x = true → RV K ⟨[], ρ.z⟩ H x v
  | .non, _, h, _ => h
  | .bl _, _, h, _ => h
  | .int _, _, h, _ => h
  | .str _, _, h, _ => h
  | .ty _, _, h, _ => h
  | .glo _, _, h, _ => h
  | .tup xs, _, ⟨a, vs, h1, h2, h3⟩, c => ⟨a, vs, h1, h2.elim (fun h => .inl ⟨(fun z => nomatch z), h.2⟩) .inr, RVs.alone xs h3 c⟩
  | .lst xs, _, ⟨a, vs, h1, n, h2, h3⟩, c => ⟨a, vs, h1, ⟨n.1, (fun z => nomatch z)⟩, h2, RVs.alone xs h3 c⟩
  | .frl xs, _, ⟨a, vs, h1, h2, h3⟩, c => ⟨a, vs, h1, h2.elim (fun h => .inl ⟨(fun z => nomatch z), h.2⟩) .inr, RVs.alone xs h3 c⟩
  | .dic xs, _, ⟨a, vs, h1, n, h2, h3⟩, c => ⟨a, vs, h1, ⟨n.1, (fun z => nomatch z)⟩, h2, RKs.alone xs h3 c⟩
  | .dit xs, _, ⟨a, vs, h1, n, h2, h3⟩, c => ⟨a, vs, h1, ⟨n.1, (fun z => nomatch z)⟩, h2, RTs.alone xs h3 c⟩
  | .ins _ fs, _, ⟨a, dx, gs, h1, n, h2, h3⟩, c => ⟨a, dx, gs, h1, ⟨n.1, (fun z => nomatch z)⟩, h2, RFs.alone fs h3 c⟩
  | .obj n, _, _, c => absurd (of_decide_eq_true (show decide (n < 0) = true from c)) (Nat.not_lt_zero n)
  | .err _ fs, _, ⟨a, d, gs, h1, n, h2, h3, h4⟩, c => ⟨a, d, gs, h1, (fun z => nomatch z), h2, h3.elim (fun ⟨dd, q1, q2, q3⟩ => .inl ⟨dd, q1, (fun z => nomatch z), q3⟩) .inr, RFs.alone fs h4 c⟩
theorem RVs.alone : ∀ (xs : List Vl) {vs : List V}, RVs K ρ H xs vs → cloL 0 xs = true → RVs K ⟨[], ρ.z⟩ H xs vs
  | [], _, h, _ => h
  | x :: xs, _, ⟨v, r, h1, h2, h3⟩, c => ⟨v, r, h1, RV.alone x h2 (and2 c).1, RVs.alone xs h3 (and2 c).2⟩
theorem RKs.alone : ∀ (xs : List (Key × Vl)) {vs : List (Key × V)}, RKs K ρ H xs vs → cloK 0 xs = true → RKs K ⟨[], ρ.z⟩ H xs vs
  | [], _, h, _ => h
  | (_, x) :: xs, _, ⟨v, r, h1, h2, h3⟩, c => ⟨v, r, h1, RV.alone x h2 (and2 c).1, RKs.alone xs h3 (and2 c).2⟩
theorem RTs.alone : ∀ (xs : List (List Key × Vl)) {vs : List (List Key × V)}, RTs K ρ H xs vs → cloT 0 xs = true → RTs K ⟨[], ρ.z⟩ H xs vs
  | [], _, h, _ => h
  | (_, x) :: xs, _, ⟨v, r, h1, h2, h3⟩, c => ⟨v, r, h1, RV.alone x h2 (and2 c).1, RTs.alone xs h3 (and2 c).2⟩
theorem RFs.alone : ∀ (xs : List (Str × Vl)) {vs : List (Str × V)}, RFs K ρ H xs vs → cloF 0 xs = true → RFs K ⟨[], ρ.z⟩ H xs vs
  | [], _, h, _ => h
  | (_, x) :: xs, _, ⟨v, r, h1, h2, h3⟩, c => ⟨v, r, h1, RV.alone x h2 (and2 c).1, RFs.alone xs h3 (and2 c).2⟩
end
/-- what is kept as a cell: nothing; what is handed back -/
def kNone : Vl → List Nat := fun _ => []
def kTop : Vl → List Nat
  | .obj n => [n]
  | _ => []
def freshR (keep : Vl → List Nat) (fu : Nat) (m : Mem) : Option (R Vl × Mem) → Option (R Vl × Mem)
  | some (.ok x, m1) => if (keep x).Nodup then (match cnv (keep x) m.length m1 fu x, cellsK (keep x) m.length m1 fu with
    | some y, some cs => some (.ok y, m ++ cs)
    | _, _ => none) else none
  | some (.ex c fs, m1) => (match mapP (cnv [] m.length m1 fu) fs with
    | some gs => some (.ex c gs, m)
    | none => none)
  | none => none
def freshF (keep : Vl → List Nat) (fu : Nat) (g : FD) : FD := fun xs m => if cloL 0 xs = true then freshR keep fu m (g xs []) else none
def freshG (keep : Vl → List Nat) (fu : Nat) (gd : List Vl → List Vl → Mem → Option (R Vl × Mem)) : List Vl → List Vl → Mem → Option (R Vl × Mem) := fun xs ys m => if (cloL 0 xs && cloL 0 ys) = true then freshR keep fu m (gd xs ys []) else none
theorem fresh_po {W : Value → Option Addr → Hp → Prop} {Q : VK} {kf : Vl → List Nat} {fu : Nat} {g : Option (R Vl × Mem)} {r : R Vl} {m' : Mem} (M : RM K ρ m H) (e : freshR kf fu m g = some (r, m')) (p : Po K ρ H (RV K) W Q r m') :
    ∃ r1 m1, g = some (r1, m1) ∧ Po K ⟨[], ρ.z⟩ H (RV K) W Q r1 m1 := by
  unfold freshR at e
  split at e
  · rename_i x m1
    split at e
    · rename_i hnd
      split at e
      · rename_i y cs hy hcs
        cases e
        refine ⟨_, _, rfl, fun ρ1 H1 M1 E1 v rv => ?_⟩
        obtain ⟨ρ', M', E', T⟩ := fresh_lay M M1 E1 hnd hcs
        exact p ρ' H1 M' E' v (cnv_ok T M1 _ _ _ _ hy rv)
      · cases e
    · cases e
  · rename_i c fs m1
    split at e
    · rename_i gs hg
      cases e
      refine ⟨_, _, rfl, fun ρ1 H1 M1 E1 dd x => ?_⟩
      obtain ⟨ρ', M', E', T⟩ := fresh_lay (keep := []) (cs := []) (fu := fu) M M1 E1 List.nodup_nil rfl
      rw [List.append_nil] at M'
      refine p ρ' H1 M' E' dd ?_
      cases dd with
      | none =>
        have hf : fs = [] := x
        subst hf
        cases hg
        exact rfl
      | some d =>
        obtain ⟨gv, x1, x2, x3⟩ := x
        refine ⟨gv, x1, fun hc => ?_, rfs_map (cnv_ok T M1 fu) hg x3⟩
        have := T.ht d _ x1 hc
        cases this
    · cases e
  · cases e
theorem freshF_sp {g : FD} {kf : Vl → List Nat} {fu n : Nat} (vs : List V) (H : Hp) (Q : VK) (E : XK) (h : spZ K n (freshF kf fu g) vs H Q E) : spZ K n g vs H Q E := by
  obtain ⟨hl, ρ, m, xs, r, m', M, rx, e, p⟩ := h
  unfold freshF at e
  split at e
  · rename_i hc
    obtain ⟨r1, m1, hg, p1⟩ := fresh_po M e p
    exact ⟨hl, ⟨[], ρ.z⟩, [], xs, r1, m1, M.empty, RVs.alone xs rx hc, hg, p1⟩
  · cases e
end
section
variable {X : Cx} {k n : Nat} {f : Addr} {ks : List Str} {gz : List Vl → List Vl → List Vl} {g : FD} {gd : List Vl → List Vl → Mem → Option (R Vl × Mem)}
theorem Fz.fresh {P : Program} {w : World} {K : PySem.W.Frag} {mg : Str → Option Value} {base : Heap} (F : Fz P w K mg base k f n ks gz g) (kf : Vl → List Nat) (fu : Nat) : Fz P w K mg base k f n ks gz (freshF kf fu g) := by
  obtain ⟨fd, ps, gs, gV, h1, h2, h3⟩ := F.ex
  exact ⟨fd, ps, gs, gV, h1.imp fun vs H Q E h => freshF_sp vs H Q E h, h2, h3⟩
theorem Runs.fresh (R : Z.Runs X f n ks gd) (kf : Vl → List Nat) (fu : Nat) : Z.Runs X f n ks (freshG kf fu gd) := fun {W} tk {pins σ H s Q us ws vs zs ρ m m' xs ys r} I a b M rx ry hn hk e p => by
  unfold freshG at e
  split at e
  · rename_i hc
    rw [Bool.and_eq_true] at hc
    obtain ⟨r1, m1, hg, p1⟩ := fresh_po M e p
    exact R tk I a b M.empty (RVs.alone xs rx hc.1) (RVs.alone ys ry hc.2) hn hk hg p1
  · cases e
/-- a call told by what it answers -/
theorem Runs.imp {gd' : List Vl → List Vl → Mem → Option (R Vl × Mem)} (R : Z.Runs X f n ks gd) (q : ∀ xs ys m r m', xs.length = n → ys.length = ks.length → gd' xs ys m = some (r, m') → gd xs ys m = some (r, m')) : Z.Runs X f n ks gd' := by
  intro W tk pins σ H s Q us ws vs zs ρ m m' xs ys r I a b M rx ry hn hk e p
  exact R tk I a b M rx ry hn hk (q _ _ _ _ _ hn hk e) p
theorem Fz.impE {P : Program} {w : World} {K : PySem.W.Frag} {mg : Str → Option Value} {base : Heap} {g' : FD} (F : Fz P w K mg base k f n ks gz g) (q : ∀ xs m r, g' xs m = some r → g xs m = some r) : Fz P w K mg base k f n ks gz g' := by
  obtain ⟨fd, ps, gs, gV, h1, h2, h3⟩ := F.ex
  exact ⟨fd, ps, gs, gV, h1.imp fun vs H Q E h => spZ_imp (fun xs m r _ => q xs m r) vs H Q E h, h2, h3⟩
end
end Z
namespace Z
open PySem PySem.Spec PyProof.Rows L2
/-! ### where arguments come from -/
inductive Src where
  | a (i : Nat) | d (i : Nat) | m (i : Nat) | k (i : Nat)
def Src.at_ {α : Type} (us its mv ws : List α) : Src → Option α
  | .a i => us[i]?
  | .d i => its[i]?
  | .m i => mv[i]?
  | .k i => ws[i]?
def pickL {α : Type} (S : List Src) (us its mv ws : List α) : List α := S.filterMap (Src.at_ us its mv ws)
def Src.lt (n d m k : Nat) : Src → Bool
  | .a i => decide (i < n)
  | .d i => decide (i < d)
  | .m i => decide (i < m)
  | .k i => decide (i < k)
theorem Src.some {α : Type} {us its mv ws : List α} {s : Src} (h : s.lt us.length its.length mv.length ws.length = true) : ∃ x, s.at_ us its mv ws = Option.some x := by
  cases s with
  | a i => exact ⟨_, List.getElem?_eq_getElem (of_decide_eq_true (show decide (i < us.length) = true from h))⟩
  | d i => exact ⟨_, List.getElem?_eq_getElem (of_decide_eq_true (show decide (i < its.length) = true from h))⟩
  | m i => exact ⟨_, List.getElem?_eq_getElem (of_decide_eq_true (show decide (i < mv.length) = true from h))⟩
  | k i => exact ⟨_, List.getElem?_eq_getElem (of_decide_eq_true (show decide (i < ws.length) = true from h))⟩
theorem pick_len {α : Type} {us its mv ws : List α} : ∀ {S : List Src}, S.all (Src.lt us.length its.length mv.length ws.length) = true → (pickL S us its mv ws).length = S.length
  | [], _ => rfl
  | s :: S, h => by
    rw [List.all_cons, Bool.and_eq_true] at h
    obtain ⟨x, hx⟩ := Src.some h.1
    unfold pickL
    rw [List.filterMap_cons, hx]
    show (x :: pickL S us its mv ws).length = _
    rw [List.length_cons, List.length_cons, pick_len h.2]
theorem vals_at {α β : Type} {Rel : α → β → Prop} {vs : List α} {us : List β} (hl : vs.length = us.length) (hg : ∀ (i : Nat) (v : α), vs[i]? = some v → ∃ u, us[i]? = some u ∧ Rel v u) (i : Nat) : (vs[i]? = none ∧ us[i]? = none) ∨ ∃ v u, vs[i]? = some v ∧ us[i]? = some u ∧ Rel v u := by
  cases e : vs[i]? with
  | none => exact .inl ⟨rfl, by rw [List.getElem?_eq_none_iff] at e ⊢; omega⟩
  | some v =>
    obtain ⟨u, h1, h2⟩ := hg i v e
    exact .inr ⟨v, u, rfl, h1, h2⟩
theorem pick_vals {vs ds mz zs : List V} {us its mv ws : List Value} (a : Vals vs us) (b : Vals ds its) (c : Vals mz mv) (d : Vals zs ws) : ∀ S : List Src, Vals (pickL S vs ds mz zs) (pickL S us its mv ws)
  | [] => .nil
  | s :: S => by
    have ih := pick_vals a b c d S
    have key : (s.at_ vs ds mz zs = none ∧ s.at_ us its mv ws = none) ∨ ∃ v u, s.at_ vs ds mz zs = some v ∧ s.at_ us its mv ws = some u ∧ RelV v u := by
      cases s with
      | a i => exact vals_at a.length (fun i v h => a.get h) i
      | d i => exact vals_at b.length (fun i v h => b.get h) i
      | m i => exact vals_at c.length (fun i v h => c.get h) i
      | k i => exact vals_at d.length (fun i v h => d.get h) i
    unfold pickL
    rw [List.filterMap_cons, List.filterMap_cons]
    rcases key with ⟨h1, h2⟩ | ⟨v, u, h1, h2, r⟩
    · rw [h1, h2]; exact ih
    · rw [h1, h2]; exact .cons r ih
theorem pick_rvs {K : PySem.W.Frag} {ρ : Lay} {H : Hp} {xs dz mz ys : List Vl} {vs ds ms zs : List V} (a : RVs K ρ H xs vs) (b : RVs K ρ H dz ds) (c : RVs K ρ H mz ms) (d : RVs K ρ H ys zs) : ∀ S : List Src, RVs K ρ H (pickL S xs dz mz ys) (pickL S vs ds ms zs)
  | [] => rfl
  | s :: S => by
    have ih := pick_rvs a b c d S
    have key : (s.at_ xs dz mz ys = none ∧ s.at_ vs ds ms zs = none) ∨ ∃ x v, s.at_ xs dz mz ys = some x ∧ s.at_ vs ds ms zs = some v ∧ RV K ρ H x v := by
      cases s with
      | a i => exact vals_at a.length (fun i v h => a.get h) i
      | d i => exact vals_at b.length (fun i v h => b.get h) i
      | m i => exact vals_at c.length (fun i v h => c.get h) i
      | k i => exact vals_at d.length (fun i v h => d.get h) i
    unfold pickL
    rw [List.filterMap_cons, List.filterMap_cons]
    rcases key with ⟨h1, h2⟩ | ⟨x, v, h1, h2, r⟩
    · rw [h1, h2]; exact ih
    · rw [h1, h2]; exact ⟨v, _, rfl, r, ih⟩
section
variable {P : Program} {w : World} {K : PySem.W.Frag} {mg : Str → Option Value} {base : Heap} {x qual : Str} {params : Arguments} {body : List Stmt} {scope : Scope} {dvs : List V} {kws : List (Str × V)} {f : Addr} {fd : FuncData} {ps : List Str} {k : Nat} {g : FD}
/-- no defaults are asked for -/
theorem fz1 (F : FunD K x qual params body scope [] kws f fd) (G : FnOk P w K mg base (L2.CX P w) k f fd ps (spZ K ps.length g)) (n : Nat) (ks : List Str) (S : List Src)
    (h : ∀ (kV doc pm : Value) (an : Option Addr) (cdv ct : Value) (us ws : List Value), us.length = n → ws.length = ks.length → bindArgs (PySem.W.fnOf x qual params body scope .none kV doc pm an cdv ct) ⟨us, ks.zip ws⟩ = pure (ps.zip (pickL S us [] [] ws)))
    (hl : S.length = ps.length := by rfl) (hS : S.all (Src.lt n 0 0 ks.length) = true := by rfl) : Fz P w K mg base k f n ks (fun xs ys => pickL S xs [] [] ys) g := by
  obtain ⟨oc, od, dV, kV, doc, pm, an, cdv, ct, osl, rfl, lk, hcd, hD, hK⟩ := F.ex
  rcases hD with ⟨_, rfl⟩ | ⟨e, _⟩
  · refine ⟨_, ps, fun us ws => pickL S us [] [] ws, fun vs zs => pickL S vs [] [] zs, G, ⟨fun s us ws _ l1 l2 => .of_eq (h kV doc pm an cdv ct us ws l1 l2), fun a b => pick_vals a .nil .nil b S⟩, fun ρ H xs vs ys zs l1 l2 a b => ⟨?_, pick_rvs a (show RVs K ρ H [] [] from rfl) (show RVs K ρ H [] [] from rfl) b S⟩⟩
    rw [← hl]
    refine pick_len ?_
    rw [← a.length, ← b.length, l1, l2]
    exact hS
  · exact absurd rfl e
/-- positional defaults, no keyword-only default is asked for -/
theorem fz2 (F : FunD K x qual params body scope dvs kws f fd) (G : FnOk P w K mg base (L2.CX P w) k f fd ps (spZ K ps.length g)) (n : Nat) (ks : List Str) (S : List Src) (dz : List Vl) (hz : ∀ ρ H, RVs K ρ H dz dvs) (hd : dvs ≠ [])
    (h : ∀ (T : Addr) (kV doc pm : Value) (an : Option Addr) (cdv ct : Value) (us its ws : List Value), us.length = n → its.length = dvs.length → ws.length = ks.length →
      ∃ k, bindArgs (PySem.W.fnOf x qual params body scope (.ref T) kV doc pm an cdv ct) ⟨us, ks.zip ws⟩ = seqItems? (.ref T) >>= k ∧ k (some its.toArray) = pure (ps.zip (pickL S us its [] ws)))
    (hl : S.length = ps.length) (hS : S.all (Src.lt n dvs.length 0 ks.length) = true) : Fz P w K mg base k f n ks (fun xs ys => pickL S xs dz [] ys) g := by
  obtain ⟨its, B⟩ := F.kbindsD n ks (fun {α} us its ws => pickL S us its [] ws) hd (fun a b c => pick_vals a b .nil c S) h
  refine ⟨fd, ps, _, _, G, B, fun ρ H xs vs ys zs l1 l2 a b => ⟨?_, pick_rvs a (hz ρ H) (show RVs K ρ H [] [] from rfl) b S⟩⟩
  rw [← hl]
  refine pick_len ?_
  rw [← a.length, ← b.length, l1, l2]
  exact hS
/-- keyword-only defaults, no positional ones -/
theorem fz3 (F : FunD K x qual params body scope [] kws f fd) (G : FnOk P w K mg base (L2.CX P w) k f fd ps (spZ K ps.length g)) (n : Nat) (ks : List Str) (ms : List (Str × V)) (S : List Src) (mz : List Vl) (hz : ∀ ρ H, RVs K ρ H mz (ms.map (·.2))) (hk : kws ≠ []) (hms : ∀ q ∈ ms, q ∈ kws)
    (h : ∀ (D : Addr) (doc pm : Value) (an : Option Addr) (cdv ct : Value) (us mv ws : List Value), us.length = n → mv.length = ms.length → ws.length = ks.length →
      KwChain D ((ms.map (·.1)).zip mv) (bindArgs (PySem.W.fnOf x qual params body scope .none (.ref D) doc pm an cdv ct) ⟨us, ks.zip ws⟩) (ps.zip (pickL S us [] mv ws)))
    (hl : S.length = ps.length) (hS : S.all (Src.lt n 0 ms.length ks.length) = true) : Fz P w K mg base k f n ks (fun xs ys => pickL S xs [] mz ys) g := by
  obtain ⟨mv, B⟩ := F.kbinds0 n ks ms (fun {α} us mv ws => pickL S us [] mv ws) hk hms (fun a b c => pick_vals a .nil b c S) h
  refine ⟨fd, ps, _, _, G, B, fun ρ H xs vs ys zs l1 l2 a b => ⟨?_, pick_rvs a (show RVs K ρ H [] [] from rfl) (hz ρ H) b S⟩⟩
  rw [← hl]
  refine pick_len ?_
  rw [← a.length, ← b.length, List.length_map, l1, l2]
  exact hS
/-- both -/
theorem fz4 (F : FunD K x qual params body scope dvs kws f fd) (G : FnOk P w K mg base (L2.CX P w) k f fd ps (spZ K ps.length g)) (n : Nat) (ks : List Str) (ms : List (Str × V)) (S : List Src) (dz mz : List Vl) (hdz : ∀ ρ H, RVs K ρ H dz dvs) (hz : ∀ ρ H, RVs K ρ H mz (ms.map (·.2))) (hd : dvs ≠ []) (hk : kws ≠ []) (hms : ∀ q ∈ ms, q ∈ kws)
    (h : ∀ (T D : Addr) (doc pm : Value) (an : Option Addr) (cdv ct : Value) (us its mv ws : List Value), us.length = n → its.length = dvs.length → mv.length = ms.length → ws.length = ks.length →
      ∃ k, bindArgs (PySem.W.fnOf x qual params body scope (.ref T) (.ref D) doc pm an cdv ct) ⟨us, ks.zip ws⟩ = seqItems? (.ref T) >>= k ∧ KwChain D ((ms.map (·.1)).zip mv) (k (some its.toArray)) (ps.zip (pickL S us its mv ws)))
    (hl : S.length = ps.length) (hS : S.all (Src.lt n dvs.length ms.length ks.length) = true) : Fz P w K mg base k f n ks (fun xs ys => pickL S xs dz mz ys) g := by
  obtain ⟨its, mv, B⟩ := F.kbinds n ks ms (fun {α} us its mv ws => pickL S us its mv ws) hd hk hms (fun a b c d => pick_vals a b c d S) h
  refine ⟨fd, ps, _, _, G, B, fun ρ H xs vs ys zs l1 l2 a b => ⟨?_, pick_rvs a (hdz ρ H) (hz ρ H) b S⟩⟩
  rw [← hl]
  refine pick_len ?_
  rw [← a.length, ← b.length, List.length_map, l1, l2]
  exact hS
end
/-! ### the module's constants -/
mutual
/-- the value u of the module, told as a tree -/
def kv (K : PySem.W.Frag) : Vl → Value → Bool
  | .non, .none => true
  | .bl b, .bool c => b == c
  | .int i, .int j _ => decide (i = j)
  | .str x, .str y _ => decide (x = y)
  | .ty n, .type m => decide (n = m)
  | .glo x, .ref a => decide (a = He.ga K x)
  | .tup xs, .ref a => (match K.lookup a with
    | some ⟨.type c, _, .seq its _, _⟩ => decide (c = "tuple") && (decide (its.size ≤ sizeLine) && kvs K xs its.toList)
    | _ => false)
  | .frl xs, .ref a => (match K.lookup a with
    | some ⟨.type c, none, .seq its _, _⟩ => decide (c = "list") && (decide (its.size ≤ sizeLine) && kvs K xs its.toList)
    | _ => false)
  | _, _ => false
def kvs (K : PySem.W.Frag) : List Vl → List Value → Bool
  | [], [] => true
  | x :: xs, u :: us => kv K x u && kvs K xs us
  | _, _ => false
end
mutual
theorem kv_ok {K : PySem.W.Frag} : ∀ {x : Vl} {u : Value}, kv K x u = true → ∃ v, RelV v u ∧ ∀ ρ H, RV K ρ H x v
  | .non, .none, _ => ⟨.non, rfl, fun _ _ => rfl⟩
  | .bl b, .bool c, h => ⟨.bl b, by rw [eq_of_beq (show (b == c) = true from h)]; rfl, fun _ _ => rfl⟩
  | .int i, .int j t, h => ⟨.int i, ⟨t, by rw [of_decide_eq_true (show decide (i = j) = true from h)]⟩, fun _ _ => rfl⟩
  | .str x, .str y t, h => ⟨.str x, ⟨t, by rw [of_decide_eq_true (show decide (x = y) = true from h)]⟩, fun _ _ => rfl⟩
  | .ty n, .type m, h => ⟨.ty n, by rw [of_decide_eq_true (show decide (n = m) = true from h)]; rfl, fun _ _ => rfl⟩
  | .glo x, .ref a, h => ⟨.ref (He.ga K x), by rw [of_decide_eq_true (show decide (a = He.ga K x) = true from h)]; rfl, fun _ _ => rfl⟩
  | .tup xs, .ref a, h => by
    have h' : (match K.lookup a with
      | some ⟨.type c, _, .seq its _, _⟩ => decide (c = "tuple") && (decide (its.size ≤ sizeLine) && kvs K xs its.toList)
      | _ => false) = true := h
    split at h'
    · rename_i c od its n sl q
      rw [Bool.and_eq_true, Bool.and_eq_true, decide_eq_true_eq, decide_eq_true_eq] at h'
      obtain ⟨rfl, h2, h3⟩ := h'
      obtain ⟨vs, r1, r2⟩ := kvs_ok h3
      exact ⟨.ref a, rfl, fun ρ H => ⟨a, vs, rfl, .inr ⟨_, its, n, q, rfl, rfl, h2, r1⟩, r2 ρ H⟩⟩
    · cases h'
  | .frl xs, .ref a, h => by
    have h' : (match K.lookup a with
      | some ⟨.type c, none, .seq its _, _⟩ => decide (c = "list") && (decide (its.size ≤ sizeLine) && kvs K xs its.toList)
      | _ => false) = true := h
    split at h'
    · rename_i c its n sl q
      rw [Bool.and_eq_true, Bool.and_eq_true, decide_eq_true_eq, decide_eq_true_eq] at h'
      obtain ⟨rfl, h2, h3⟩ := h'
      obtain ⟨vs, r1, r2⟩ := kvs_ok h3
      exact ⟨.ref a, rfl, fun ρ H => ⟨a, vs, rfl, .inr ⟨_, its, n, q, rfl, rfl, rfl, h2, r1⟩, r2 ρ H⟩⟩
    · cases h'
theorem kvs_ok {K : PySem.W.Frag} : ∀ {xs : List Vl} {us : List Value}, kvs K xs us = true → ∃ vs, Vals vs us ∧ ∀ ρ H, RVs K ρ H xs vs
  | [], [], _ => ⟨[], .nil, fun _ _ => rfl⟩
  | x :: xs, u :: us, h => by
    rw [kvs, Bool.and_eq_true] at h
    obtain ⟨v, h1, h2⟩ := kv_ok h.1
    obtain ⟨vs, h3, h4⟩ := kvs_ok h.2
    exact ⟨v :: vs, .cons h1 h3, fun ρ H => ⟨v, vs, rfl, h2 ρ H, h4 ρ H⟩⟩
end
/-- the module's name x is the constant y -/
def ckGlob (x : Str) (y : Vl) (K : PySem.W.Frag) : Bool := match PySem.W.nsIn K mainGlobals x with
  | some (some u) => kv K y u
  | _ => false
theorem ckGlob_ok {K : PySem.W.Frag} {h : Heap} {mg : Str → Option Value} (X : K.In h) (G : h.Ns mainGlobals mg) {x : Str} {y : Vl} (c : ckGlob x y K = true) : ∃ u v, mg x = some u ∧ RelV v u ∧ ∀ ρ H, RV K ρ H y v := by
  unfold ckGlob at c
  split at c
  · rename_i u e
    obtain ⟨v, h1, h2⟩ := kv_ok c
    exact ⟨u, v, PySem.W.mg_of X G e, h1, h2⟩
  · cases c
/-! ### defs by where they stand -/
structure DZ where
  adr : PySem.W.Frag → Addr
  name : Str
  qual : Str
  params : Arguments
  body : List Stmt
  scope : Scope
  dfl : List He.Dv := []
  kwd : List (Str × He.Dv) := []
def DZ.val (d : DZ) : He.FnW := some (d.name, d.qual, d.params, .stmts d.body, d.scope, mainGlobals, [], builtinsNs)
def DZ.dvs (K : PySem.W.Frag) (d : DZ) : List V := d.dfl.map (He.Dv.v K)
def DZ.kws (K : PySem.W.Frag) (d : DZ) : List (Str × V) := d.kwd.map fun q => (q.1, q.2.v K)
def fnZ (K : PySem.W.Frag) (a : Addr) : He.FnW := match K.lookup a with
  | some ⟨_, _, .func fd, _⟩ => some (fd.name, fd.qualname, fd.params, fd.body, fd.scope, fd.globals, fd.closure, fd.builtins)
  | _ => none
def DZ.ok (K : PySem.W.Frag) (d : DZ) : Bool := PySem.W.keepIn K (.ref (d.adr K)) && (match K.lookup (d.adr K) with
  | some ⟨_, _, .func fd, _⟩ => PySem.W.codeIn K fd.code d.qual && (He.dflB K fd.defaults (d.dvs K) && He.kwdB K fd.kwdefaults (d.kws K))
  | _ => false)
theorem DZ.funD {K : PySem.W.Frag} {d : DZ} (e : fnZ K (d.adr K) = d.val) (c : d.ok K = true) : ∃ fd, FunD K d.name d.qual d.params d.body d.scope (d.dvs K) (d.kws K) (d.adr K) fd := by
  unfold DZ.ok at c
  unfold fnZ at e
  rw [Bool.and_eq_true] at c
  obtain ⟨kp, c2⟩ := c
  split at c2
  · rename_i oc od fd osl q
    rw [q] at e
    obtain ⟨n1, n2, n3, n4, n5, n6, n7, n8, n9, n10, n11, n12, n13, n14, n15⟩ := fd
    have e2 : (some (n1, n2, n3, n4, n5, n6, n7, n15) : He.FnW) = some (d.name, d.qual, d.params, .stmts d.body, d.scope, mainGlobals, [], builtinsNs) := e
    simp only [Option.some.injEq, Prod.mk.injEq] at e2
    obtain ⟨rfl, rfl, rfl, rfl, rfl, rfl, rfl, rfl⟩ := e2
    rw [Bool.and_eq_true, Bool.and_eq_true] at c2
    obtain ⟨k1, k3, k4⟩ := c2
    exact ⟨_, ⟨oc, od, n8, n9, n10, n11, n12, n13, n14, osl, rfl, q, k1, He.dflB_ok k3, He.kwdB_ok k4⟩, kp⟩
  · cases c2
/-! ### the __init__s of own errors: they bear the cell of their class -/
structure EZ where
  adr : PySem.W.Frag → Addr
  cls : PySem.W.Frag → Addr
  qual : Str
  params : Arguments
  body : List Stmt
  scope : Scope
  file : Str
def EZ.val (d : EZ) : He.FnW := some ("__init__", d.qual, d.params, .stmts d.body, d.scope, mainGlobals, [("__class__", 0)], builtinsNs)
def fnE (K : PySem.W.Frag) (a : Addr) : He.FnW := match K.lookup a with
  | some ⟨_, _, .func fd, _⟩ => some (fd.name, fd.qualname, fd.params, fd.body, fd.scope, fd.globals, fd.closure.map (fun p => (p.1, 0)), fd.builtins)
  | _ => none
def codeOk (K : PySem.W.Frag) (file : Str) : Value → Bool
  | .ref c => (match K.lookup c with
    | some ⟨_, _, .fields (vs : Array Value), _⟩ => (match (vs[2]? : Option Value) with
      | some (.str f _) => decide (f = file)
      | _ => false)
    | _ => false)
  | _ => false
def cellOk (K : PySem.W.Frag) (C : Addr) (c : Addr) : Bool := match K.lookup c with
  | some ⟨_, _, .cell (some (.ref D)), _⟩ => decide (D = C)
  | _ => false
def noneB : Value → Bool
  | .none => true
  | _ => false
def EZ.ok (K : PySem.W.Frag) (d : EZ) : Bool := match K.lookup (d.adr K) with
  | some ⟨_, _, .func fd, _⟩ => PySem.W.codeIn K fd.code d.qual && (noneB fd.defaults && (codeOk K d.file fd.code && fd.closure.all fun p => cellOk K (d.cls K) p.2))
  | _ => false
theorem EZ.facts {K : PySem.W.Frag} {d : EZ} (e : fnE K (d.adr K) = d.val) (c : d.ok K = true) : ∃ (cc cda : Addr) (kV doc pm ct : Value) (an : Option Addr) (oc : Value) (od : Option Addr) (osl : Array (Option Value)) (vs : Array Value) (tf : Tok) (ccl : Value) (cdd : Option Addr) (ccs : Array (Option Value)) (cl : Value) (cld : Option Addr) (csl : Array (Option Value)),
    K.lookup (d.adr K) = some ⟨oc, od, .func (PySem.W.fnX "__init__" d.qual d.params d.body d.scope [("__class__", cc)] .none kV doc pm an (.ref cda) ct), osl⟩ ∧ PySem.W.codeIn K (.ref cda) d.qual = true ∧ K.lookup cda = some ⟨ccl, cdd, .fields vs, ccs⟩ ∧ vs[2]? = some (.str d.file tf) ∧ K.lookup cc = some ⟨cl, cld, .cell (some (.ref (d.cls K))), csl⟩ := by
  unfold EZ.ok at c
  unfold fnE at e
  split at c
  · rename_i oc od fd osl q
    rw [q] at e
    obtain ⟨n1, n2, n3, n4, n5, n6, n7, n8, n9, n10, n11, n12, n13, n14, n15⟩ := fd
    have e2 : (some (n1, n2, n3, n4, n5, n6, n7.map (fun p => (p.1, 0)), n15) : He.FnW) = (some (("__init__" : Str), d.qual, d.params, FuncBody.stmts d.body, d.scope, mainGlobals, [(("__class__" : Str), (0 : Addr))], builtinsNs) : He.FnW) := e
    simp only [Option.some.injEq, Prod.mk.injEq] at e2
    obtain ⟨rfl, rfl, rfl, rfl, rfl, rfl, e7, rfl⟩ := e2
    obtain ⟨cc, rfl⟩ : ∃ cc : Addr, n7 = [(("__class__" : Str), cc)] := by
      cases n7 with
      | nil => cases e7
      | cons p r =>
        cases r with
        | nil =>
          obtain ⟨x, cc⟩ := p
          simp only [List.map_cons, List.map_nil, List.cons.injEq, Prod.mk.injEq] at e7
          exact ⟨cc, by rw [e7.1.1]⟩
        | cons p2 r => simp at e7
    simp only [Bool.and_eq_true, List.all_cons, List.all_nil, Bool.and_true] at c
    obtain ⟨k1, k2, k3, k4⟩ := c
    have h8 : n8 = .none := by
      unfold noneB at k2
      split at k2
      · rfl
      · cases k2
    subst h8
    unfold codeOk at k3
    split at k3
    · rename_i cda
      split at k3
      · rename_i ccl cdd vs ccs q2
        split at k3
        · rename_i f tf q3
          rw [decide_eq_true_eq] at k3
          subst k3
          unfold cellOk at k4
          split at k4
          · rename_i cl cld D csl q4
            rw [decide_eq_true_eq] at k4
            subst k4
            exact ⟨cc, cda, _, _, _, _, _, oc, od, osl, vs, tf, ccl, cdd, ccs, cl, cld, csl, q, k1, q2, q3, q4⟩
          · cases k4
        · cases k3
      · cases k3
    · cases k3
  · cases c
/-! ### the hook -/
abbrev AlZ : Type := Bool × List He.FnW × List He.FnW
abbrev CkL : Type := List (PySem.W.Frag → Bool)
def obsZ (cks : CkL) (ds : List DZ) (es : List EZ) (K : PySem.W.Frag) : AlZ := ((cks.all fun c => c K) && ((ds.all fun d => d.ok K) && es.all fun d => d.ok K), ds.map fun d => fnZ K (d.adr K), es.map fun d => fnE K (d.adr K))
def valZ (ds : List DZ) (es : List EZ) : AlZ := (true, ds.map DZ.val, es.map EZ.val)
def SaysZ (cks : CkL) (ds : List DZ) (es : List EZ) (K : PySem.W.Frag) : Prop := obsZ cks ds es K = valZ ds es
/-- what the head's run tells of: what the module's names lead to, and the interpreter's own table -/
def asZ (g : Addr → Option Obj) (n : Nat) : List Addr := cStatics :: He.asD g n
def obsZG (n : Nat) (cks : CkL) (ds : List DZ) (es : List EZ) (g : Addr → Option Obj) : AlZ := obsZ cks ds es (He.frG g (asZ g n))
def hookZ (n : Nat) (cks : CkL) (ds : List DZ) (es : List EZ) : PySem.W.Hook where
  α := AlZ
  obs := fun s => obsZG n cks ds es s.heap.get?
  val := fun _ => valZ ds es
  says := fun _ h => ∃ K : PySem.W.Frag, K.In h ∧ SaysZ cks ds es K
  of := fun _ _ e => ⟨_, He.frG_in, e⟩
  keeps := fun _ _ _ ⟨K, hK, c⟩ k => ⟨K, PySem.W.Frag.In.keeps hK k, c⟩
theorem obsZG_eq {n : Nat} {cks : CkL} {ds : List DZ} {es : List EZ} {g : Addr → Option Obj} {s : Shared} (h : ∀ a, g a = s.heap.get? a) : obsZG n cks ds es g = (hookZ n cks ds es).obs s := by
  have e : g = s.heap.get? := funext h
  rw [e] <;> rfl
section
variable {cks : CkL} {ds : List DZ} {es : List EZ} {K : PySem.W.Frag}
theorem SaysZ.all (c : SaysZ cks ds es K) : (cks.all fun c => c K) = true ∧ (ds.all fun d => d.ok K) = true ∧ (es.all fun d => d.ok K) = true := by
  have c1 : ((cks.all fun c => c K) && ((ds.all fun d => d.ok K) && es.all fun d => d.ok K)) = true := congrArg (fun z : AlZ => z.1) c
  rw [Bool.and_eq_true, Bool.and_eq_true] at c1
  exact c1
theorem SaysZ.fact (c : SaysZ cks ds es K) (i : Nat) {f : PySem.W.Frag → Bool} (h : cks[i]? = some f := by rfl) : f K = true := List.all_eq_true.mp c.all.1 f (List.mem_of_getElem? h)
theorem SaysZ.def_ (c : SaysZ cks ds es K) (i : Nat) {d : DZ} (h : ds[i]? = some d := by rfl) : ∃ fd, FunD K d.name d.qual d.params d.body d.scope (d.dvs K) (d.kws K) (d.adr K) fd := by
  have c2 : (ds.map fun d => fnZ K (d.adr K)) = ds.map DZ.val := congrArg (fun z : AlZ => z.2.1) c
  have e2 : (ds.map fun d => fnZ K (d.adr K))[i]? = (ds.map DZ.val)[i]? := by rw [c2]
  rw [List.getElem?_map, List.getElem?_map, h] at e2
  exact DZ.funD (Option.some.inj e2) (List.all_eq_true.mp c.all.2.1 d (List.mem_of_getElem? h))
theorem SaysZ.err_ (c : SaysZ cks ds es K) (i : Nat) {d : EZ} (h : es[i]? = some d := by rfl) : fnE K (d.adr K) = d.val ∧ d.ok K = true := by
  have c2 : (es.map fun d => fnE K (d.adr K)) = es.map EZ.val := congrArg (fun z : AlZ => z.2.2) c
  have e2 : (es.map fun d => fnE K (d.adr K))[i]? = (es.map EZ.val)[i]? := by rw [c2]
  rw [List.getElem?_map, List.getElem?_map, h] at e2
  exact ⟨Option.some.inj e2, List.all_eq_true.mp c.all.2.2 d (List.mem_of_getElem? h)⟩
end
/-! ### the end -/
/-- the law's call: g answers True on the script -/
theorem call_end {P : Program} {w : World} {K : PySem.W.Frag} {mg mb : Str → Option Value} {k : Nat} {fa a : Addr} {fd : FuncData} {x : Str} {g : FD} {s₁ : Shared} {vs : List Value} {ns : List Int}
    (KX : K.In s₁.heap) (hns : s₁.heap.Ns mainGlobals mg) (hb : s₁.heap.Ns builtinsNs mb) (hbb : ∀ x : Str, x ≠ "__name__" → mb x = bootBuiltins x) (hlim : s₁.heap.NoLimit) (hg : s₁.gens = #[])
    (ha : s₁.heap.get? a = some { cls := .type "list", data := .seq vs.toArray }) (hi : IntsAre vs ns) (hl : ns.length ≤ sizeLine) (hr : Room k callerA)
    (F : ∀ base : Heap, K.In base → base.Ns mainGlobals mg → FnOk P w K mg base (L2.CX P w) k fa fd [x] (spZ K 1 g)) (hbind : ∀ (s : Shared) (u : Value), BindsTo s fd ⟨[u], []⟩ [(x, u)])
    (hlaw : ∃ m', g [.frl (ns.map Vl.int)] [] = some (.ok (.bl true), m')) :
    codeAny (model P w) callerA (.call (.ref fa) ⟨[.ref a], []⟩) (fun r s' => r = .ok (.ret (.bool true)) ∧ OldK s₁.heap s'.heap ∧ s'.os = s₁.os ∧ AllBare s'.gens) s₁ := by
  obtain ⟨m', hlaw⟩ := hlaw
  have rv := vals_ints hi
  have lenV : vs.length = ns.length := hi.length
  have rints : ∀ (ρ : Lay) (H : Hp) (l : List Int), RVs K ρ H (l.map Vl.int) (l.map V.int) := fun ρ H l => by
    induction l with
    | nil => rfl
    | cons i l ih => exact ⟨_, _, rfl, rfl, ih⟩
  -- nothing but the script may be tracked
  have core : ∀ H : Hp, (∀ b, H b = none ∨ b = a ∧ ∃ o xs, H b = some (.frz o (.lst xs))) → LstAt K ⟨[], []⟩ H a (ns.map V.int) → HOk P w H s₁.heap → (H a ≠ none → K.lookup a = none) →
      codeAny (model P w) callerA (.call (.ref fa) ⟨[.ref a], []⟩) (fun r s' => r = .ok (.ret (.bool true)) ∧ OldK s₁.heap s'.heap ∧ s'.os = s₁.os ∧ AllBare s'.gens) s₁ := by
    intro H hO hS hok hK
    have isA : ∀ {b : Addr}, H b ≠ none → b = a := fun {b} h => (hO b).elim (fun z => absurd z h) fun z => z.1
    have plain : ∀ {b : Addr} {o : Obj}, s₁.heap.get? b = some o → (b = a → H a = none) → (hidT s₁.heap H).get? b = some o := fun {b o} e h => by
      refine hidT_get e ?_
      by_cases q : H b = none
      · exact q
      · have := isA q
        subst this
        exact absurd (h rfl) q
    have nsK : ∀ {b : Addr} {mm : Str → Option Value}, s₁.heap.Ns b mm → (hidT s₁.heap H).Ns b mm := fun {b mm} ⟨o, es, ep, e, d, r⟩ => ⟨o, es, ep, plain e (fun q => by
      subst q
      rw [ha] at e
      cases e
      cases (show Data.seq vs.toArray _ = Data.dict es ep from d)), d, r⟩
    have hKb : K.In (hidT s₁.heap H) := fun b o e => plain (KX b o e) fun q => by
      subst q
      by_cases z : H b = none
      · exact z
      · rw [hK z] at e
        cases e
    obtain ⟨mc, hm1, hm2⟩ := hlim
    have e0 : Env0 P w K mg (hidT s₁.heap H) callerA [] s₁ H := ⟨rfl, ⟨hKb, nsK hns, ⟨mb, nsK hb, hbb⟩, ⟨mc, nsK hm1, hm2⟩⟩, fun b o e => of_hidT e, Nat.le_of_eq (hidT_size _ _), trivial, (fun b hb => nomatch hb), hok, .of_eq hg⟩
    have sp : spZ K 1 g [.ref a] H (fun v _ => v = .bl true) (fun _ _ _ => False) := ⟨rfl, ⟨[], []⟩, [], [.frl (ns.map Vl.int)], _, m', ⟨List.nodup_nil, rfl, fun n c b h _ => by simp at h, (fun b hb => nomatch hb)⟩, ⟨_, _, rfl, ⟨a, _, rfl, hS, rints _ _ ns⟩, rfl⟩, hlaw, fun ρ' H' _ _ v rv' => rv'⟩
    refine codeAny_mono ((F _ hKb (nsK hns)).run callerA [] s₁ H ⟨[.ref a], []⟩ [.ref a] [.ref a] _ _ hr e0 (hbind s₁ (.ref a)) (.cons rfl .nil) sp) fun r s' h => ?_
    match r, h with
    | .error e, h => exact (let ⟨_, _, _, _, _, _, _, _, _, _, _, _, z⟩ := h; z.elim)
    | .ok (.ret u), ⟨v, H', os, bare, un, hok', r', q⟩ =>
      have q' : v = .bl true := q
      subst q'
      obtain rfl : u = Value.bool true := r'
      refine ⟨rfl, OldK.of_keep fun b o e => ?_, os, bare⟩
      rcases hO b with z | ⟨_, ob, xs, z⟩
      · exact un.keep b o e z (fun q => nomatch q) (by simp)
      · obtain ⟨e1, _⟩ := hok b _ z
        obtain ⟨e2, _⟩ := hok' b _ (un.frzs b ob _ z)
        rw [e] at e1
        cases e1
        exact e2
  by_cases hk : K.lookup a = none
  · refine core (fun b => if b = a then some (.frz { cls := .type "list", data := .seq vs.toArray } (.lst (ns.map V.int))) else none) (fun b => ?_) (.inl ⟨(fun q => nomatch q), _, if_pos rfl⟩) (fun b u z => ?_) fun _ => hk
    · by_cases hb : b = a
      · exact .inr ⟨hb, _, _, if_pos hb⟩
      · exact .inl (if_neg hb)
    · by_cases hb : b = a
      · have z' := (if_pos hb).symm.trans z
        cases z'
        subst hb
        exact ⟨ha, by rw [List.length_map]; exact hl, vs, _, rv, ha⟩
      · have z' := (if_neg hb).symm.trans z
        cases z'
  · obtain ⟨o, hk⟩ := Option.ne_none_iff_exists'.mp hk
    have e := KX a o hk
    rw [ha] at e
    cases e
    refine core (fun _ => none) (fun _ => .inl rfl) (.inr ⟨_, vs.toArray, _, hk, rfl, rfl, rfl, by rw [List.size_toArray, lenV]; exact hl, by simpa using rv⟩) (fun b u z => ?_) fun z => absurd rfl z
    have z' : (none : Option HO) = some u := z
    cases z'
/-- a law: the def's reading g, and that it answers True -/
theorem walk_end {l : PySem.W.OpenLaw} {n k : Nat} {q : Program} {loose : List Str} {XP : (Str → Option Value) → Heap → Prop} {YP : World → Heap → Prop} {d : DefRec} {x : Str} {g : FD}
    (hn : l.most = some n) (hn2 : n ≤ sizeLine) (hdf : d.params.defaults = []) (hr : Room k callerA)
    (F : ∀ (w : World) (mg : Str → Option Value) (fa : Addr) (h : Heap), YP w h → h.Ns mainGlobals mg → mg d.name = some (.ref fa) →
      ∃ (K : PySem.W.Frag) (fd : FuncData), K.In h ∧ (∀ (s : Shared) (u : Value), BindsTo s fd ⟨[u], []⟩ [(x, u)]) ∧ ∀ base : Heap, K.In base → base.Ns mainGlobals mg → FnOk l.prog w K mg base (L2.CX l.prog w) k fa fd [x] (spZ K 1 g))
    (hlaw : ∀ ns : List Int, ns.length ≤ n → (∀ z ∈ ns, Builtin.Int.intBits z ≤ 1048576) → ∃ m', g [.frl (ns.map Vl.int)] [] = some (.ok (.bl true), m')) :
    PySem.W.WalkO q loose XP YP l.row.toRowW d [] (fun f vs => PySem.call f vs) := by
  refine Att.attach_callB hn hdf fun w s₀ s₁ mg mb fa o pm cd doc a vs ns G Y ho hd hcd hmg hobj hints hlen hbits hg => ?_
  obtain ⟨K, fd, KX, hb, hF⟩ := F w mg fa _ Y G.T.g hmg
  exact call_end KX G.T.g G.T.b G.T.builtins G.T.nolimit hg hobj hints (Nat.le_trans hlen hn2) hr hF hb (hlaw ns hlen hbits)
end Z
namespace Z
open PySem PySem.Spec PyProof.Rows L2
/-! ### facts that the head's run checks -/
abbrev Ck := PySem.W.Frag → Bool
def ckF (f : He.Fa) : Ck := fun K => f.ok K
abbrev ckGlo (x : Str) : Ck := ckF (.glo x)
abbrev ckFree (x : Str) : Ck := ckF (.free x)
abbrev ckMeth (c m : Str) : Ck := ckF (.meth c m)
abbrev ckMkr (c : Str) : Ck := ckF (.mkr c)
abbrev ckCls (c : Str) : Ck := ckF (.cls c)
def ckFld (cs : List Str) (f : Str) : Ck := fun K => cs.all fun c => (He.Fa.cls c).ok K && (He.Fa.noat c f).ok K
theorem ckFld_ok {K : PySem.W.Frag} {cs : List Str} {f : Str} (h : ckFld cs f K = true) : ClsF K cs f := fun c hc => by
  have := List.all_eq_true.mp h c hc
  rw [Bool.and_eq_true] at this
  exact ⟨He.cls_ok this.1, He.noat_ok this.2⟩
def ckIns (cs : List Str) : Ck := fun K => cs.all fun c => (He.Fa.cls c).ok K && (He.eqO (PySem.W.findIn K (.ref (He.ga K c)) "__class__") (some (some (.builtin "object.__class__"))) && (He.eqO (PySem.W.specialIn K (.builtin "object.__class__") "__get__") (some (some (.builtin "getset_descriptor.__get__"))) &&
  (decide (PySem.W.takesIn K (.builtin "object.__class__") = some true) && decide (PySem.W.mroIn K (He.ga K c) (.type "object") = some true))))
theorem ckIns_ok {K : PySem.W.Frag} {cs : List Str} (h : ckIns cs K = true) : InsA K cs := fun c hc => by
  have := List.all_eq_true.mp h c hc
  simp only [Bool.and_eq_true, decide_eq_true_eq] at this
  exact ⟨He.cls_ok this.1, He.eqO_ok this.2.1, He.eqO_ok this.2.2.1, this.2.2.2.1, this.2.2.2.2⟩
/-- isinstance's table -/
def kitT (tb : List (TD × TD × Bool)) : Kit := fun t u => match tb.find? fun p => decide (p.1 = t) && decide (p.2.1 = u) with
  | some p => some p.2.2
  | none => none
def ckKit (tb : List (TD × TD × Bool)) : Ck := fun K => tb.all fun p => decide (PySem.W.kitOne K (p.1.val K) (p.2.1.val K) = some p.2.2)
theorem ckKit_ok {K : PySem.W.Frag} {tb : List (TD × TD × Bool)} (h : ckKit tb K = true) : KitOk K (kitT tb) := fun t u b e => by
  unfold kitT at e
  split at e
  · rename_i p hp
    cases e
    have h1 := List.all_eq_true.mp h p (List.mem_of_find?_eq_some hp)
    have h2 := List.find?_some hp
    simp only [Bool.and_eq_true, decide_eq_true_eq] at h1 h2
    rw [← h2.1, ← h2.2]
    exact h1
  · cases e
def ckOwn (c mn : Str) (ts : List TD) : Ck := fun K => He.eqO (PySem.W.findIn K (.ref (He.ga K c)) mn) (some (some (.ref (He.ma K (He.ga K c) mn)))) && (PySem.W.isFn K (.ref (He.ma K (He.ga K c) mn)) && ts.all fun t => PySem.W.notFirst K (He.ga K c) (t.val K))
theorem ckOwn_ok {K : PySem.W.Frag} {c mn : Str} {ts : List TD} (h : ckOwn c mn ts K = true) : OwnM K c mn (He.ma K (He.ga K c) mn) ts := by
  unfold ckOwn at h
  rw [Bool.and_eq_true, Bool.and_eq_true] at h
  exact ⟨He.eqO_ok h.1, h.2.1, fun t ht => List.all_eq_true.mp h.2.2 t ht⟩
/-- the function of a property -/
def prA (K : PySem.W.Frag) (c f : Str) : Addr := match PySem.W.recIn K (He.ma K (He.ga K c) f) "property" with
  | some (.ref g :: _) => g
  | _ => 0
def ckProp (c f : Str) : Ck := fun K => He.eqO (PySem.W.findIn K (.ref (He.ga K c)) f) (some (some (.ref (He.ma K (He.ga K c) f)))) && (He.eqO (PySem.W.specialIn K (.ref (He.ma K (He.ga K c) f)) "__get__") (some (some (.builtin "property.__get__"))) &&
  (decide (PySem.W.takesIn K (.ref (He.ma K (He.ga K c) f)) = some true) && (match PySem.W.recIn K (He.ma K (He.ga K c) f) "property" with
    | some (.ref _ :: _) => true
    | _ => false)))
theorem ckProp_ok {K : PySem.W.Frag} {c f : Str} (h : ckProp c f K = true) : PropOf K (He.ga K c) f (He.ma K (He.ga K c) f) (prA K c f) := by
  unfold ckProp at h
  simp only [Bool.and_eq_true, decide_eq_true_eq] at h
  refine ⟨He.eqO_ok h.1, He.eqO_ok h.2.1, h.2.2.1, ?_⟩
  have h4 := h.2.2.2
  split at h4
  · rename_i g rest q
    refine ⟨rest, ?_⟩
    unfold prA
    rw [q]
  · cases h4
/-- the class c's constant f -/
structure CV (K : PySem.W.Frag) (c f : Str) (y : Vl) : Prop where
  ex : ∃ (mc u : Value) (v : V), ClX.CRead K (He.ga K c) mc ∧ ClX.CVal K (He.ga K c) mc f v u ∧ ∀ ρ H, RV K ρ H y v
def ckCV (c f : Str) (y : Vl) : Ck := fun K => PySem.W.readsIn K (He.ga K c) (.type "type") && (He.eqO (PySem.W.specialIn K (.ref (He.ga K c)) "__getattribute__") (some (some (.builtin "type.__getattribute__"))) && (match PySem.W.findCls K (.ref (He.ga K c)) (.type "type") f with
  | some (.val u) => kv K y u
  | _ => false))
theorem ckCV_ok {K : PySem.W.Frag} {c f : Str} {y : Vl} (h : ckCV c f y K = true) : CV K c f y := by
  unfold ckCV at h
  rw [Bool.and_eq_true, Bool.and_eq_true] at h
  obtain ⟨h1, h2, h3⟩ := h
  split at h3
  · rename_i u q
    obtain ⟨v, r1, r2⟩ := kv_ok h3
    exact ⟨.type "type", u, v, ⟨h1, He.eqO_ok h2⟩, ⟨q, r1⟩, r2⟩
  · cases h3
/-- the module's constant x -/
structure GV (K : PySem.W.Frag) (mg : Str → Option Value) (x : Str) (y : Vl) : Prop where
  ex : ∃ u v, mg x = some u ∧ RelV v u ∧ ∀ ρ H, RV K ρ H y v
theorem gv_ok {K : PySem.W.Frag} {h : Heap} {mg : Str → Option Value} (X : K.In h) (G : h.Ns mainGlobals mg) {x : Str} {y : Vl} (c : ckGlob x y K = true) : GV K mg x y := ⟨ckGlob_ok X G c⟩
section
variable {X : Cx} {x c f : Str} {y : Vl} {pos : Pos} {e a b : Expr} {de da db : DE} {k : Nat}
theorem se_con (hg : Gl X x) (h : GV X.K X.mg x y) (hd : (x == ("__debug__" : Str)) = false := by decide) : SE X (.Name x pos) (dC y) := by
  obtain ⟨u, v, h1, h2, h3⟩ := h.ex
  exact se_glob hg h1 h2 h3 hd
theorem se_cv (he : SE X e de) (h : CV X.K c f y) (hab : attributeBase e f X.env (eval e X.env) = eval e X.env := by rfl) : SE X (.Attribute e f pos) (dCV c y de) := by
  obtain ⟨mc, u, v, h1, h2, h3⟩ := h.ex
  exact se_cval he h1 h2 h3 hab
theorem u64 {A : Around} (hr : Room k A) : A.units + 64 < cLine := hr.units
theorem u65 {A : Around} (hr : Room k A) : A.units + 65 < cLine := by have := hr.un; omega
end
end Z
namespace Z
open PySem PySem.Spec PyProof.Rows L2
/-! ### walks over what may change: the i-th item by the memory of that turn -/
abbrev Wk := Nat → Mem → Option (Option Vl)
abbrev DW := Ev → Mem → Option (R (Wk × Nat) × Mem)
def ItW (K : PySem.W.Frag) (J : It) (ρ0 : Lay) (H0 : Hp) (w : Wk) : Prop := ∀ (i : Nat) (ρ : Lay) (m : Mem) (H : Hp), Ext ρ0 H0 ρ H → RM K ρ m H →
  (∀ x, w i m = some (some x) → J.go i H ∧ ∀ v H', J.yld i H v H' → RM K ρ m H' ∧ Ext ρ H ρ H' ∧ RV K ρ H' x v) ∧ (w i m = some none → J.stop i H)
def rdW (K : PySem.W.Frag) (W : WX) (d : DW) : TI := fun σ H R => ∃ ρ env m r m', S K ρ env m σ H ∧ d env m = some (r, m') ∧ ∀ ρ' H', RM K ρ' m' H' → Ext ρ H ρ' H' → match r with
  | .ok w => ∀ J, ItW K J ρ' H' w.1 → R J H'
  | .ex c fs => ∀ dd, XD K ρ' H' dd fs → W (.ref (He.ga K c)) dd σ H'
structure SIW (X : Cx) (tg iter : Expr) (d : DW) : Prop where
  run : ∀ W, Takes X W → PI X tg iter (rdW X.K W d)
def statW (xs : List Vl) : Wk := fun i _ => some xs[i]?
def cellW (n : Nat) : Wk := fun i m => match m[n]? with
  | some (.lst ys) => some ys[i]?
  | _ => none
def wkOf (m : Mem) : Vl → Option (Wk × Nat)
  | .obj n => (match m[n]? with
    | some (.lst xs) => some (cellW n, xs.length)
    | _ => none)
  | x => (match staD x with
    | some xs => some (statW xs, xs.length)
    | none => none)
def wLst (da : DE) : DW := fun env m => bindR (da env m) fun x m => match wkOf m x with
  | some w => some (.ok w, m)
  | none => none
section
variable {K : PySem.W.Frag} {ρ0 : Lay} {H0 : Hp} {xs ys : List Vl} {vs us : List V} {a b : Addr}
theorem itW_stat (h : ∀ ρ H, Ext ρ0 H0 ρ H → SqL K H a vs) (r : RVs K ρ0 H0 xs vs) : ItW K (Itl K a) ρ0 H0 (statW xs) := fun i ρ m H E M => by
  have q := itOk_list h r i ρ m H E M
  refine ⟨fun x hx => q.1 x (Option.some.inj hx), fun hx => q.2 ?_⟩
  have hx' : xs[i]? = none := Option.some.inj hx
  exact List.getElem?_eq_none_iff.mp hx'
theorem itW_cell {n : Nat} (ha : ρ0.c[n]? = some a) : ItW K (Itl K a) ρ0 H0 (cellW n) := fun i ρ m H E M => by
  have ha' : ρ.c[n]? = some a := by
    obtain ⟨t, ht⟩ := E.pre
    rw [← ht, List.getElem?_append_left (List.getElem?_eq_some_iff.mp ha).1]
    exact ha
  unfold cellW
  cases hm : m[n]? with
  | none => exact ⟨(fun x hx => nomatch hx), fun hx => nomatch hx⟩
  | some c =>
    cases c with
    | lst ys =>
      obtain ⟨vs, h1, h2⟩ := M.at_ _ _ _ hm ha'
      refine ⟨fun x hx => ?_, fun hx => ⟨vs, SqL.of h1, ?_⟩⟩
      · obtain ⟨v, h3, h4⟩ := h2.get (Option.some.inj hx)
        refine ⟨⟨vs, v, SqL.of h1, h3⟩, fun w H' q => ?_⟩
        obtain ⟨rfl, q2⟩ := q
        have := q2 vs (SqL.of h1)
        rw [h3] at this
        cases this
        exact ⟨M, .refl, h4⟩
      · have hx' : ys[i]? = none := Option.some.inj hx
        rw [← h2.length]
        exact List.getElem?_eq_none_iff.mp hx'
    | _ => exact ⟨(fun x hx => nomatch hx), fun hx => nomatch hx⟩
theorem rdW_E {da : DE} {W : WX} {f : Vl → Mem → Option (R (Wk × Nat) × Mem)} {σ : L2.St} {H : Hp} {R : It → Hp → Prop} {Q : VK} (h : rdW K W (fun env m => bindR (da env m) f) σ H R)
    (k : ∀ x m1 ρ env w v H1, S K ρ env m1 σ H1 → RV K ρ H1 x v → f x m1 = some (.ok w, m1) → (∀ J, ItW K J ρ H1 w.1 → R J H1) → Q v H1) (hf : ∀ x m r m', f x m = some (r, m') → (∃ w, r = .ok w) ∧ m' = m) : rdE K W da σ H Q := by
  obtain ⟨ρ, env, m, r, m', s, e, p⟩ := h
  have e' : bindR (da env m) f = some (r, m') := e
  unfold bindR at e'
  split at e'
  · cases e'
  · rename_i x m1 h0
    obtain ⟨⟨w, rfl⟩, rfl⟩ := hf x m1 r m' e'
    exact goE s h0 fun ρ' H' v s' E rv => k x _ ρ' env w v H' s' rv e' fun J hJ => p ρ' H' s'.mem E J hJ
  · rename_i c fs m1 h0
    cases e'
    exact exE s h0 fun ρ' H' dd s' E r => p ρ' H' s'.mem E dd r
end
section
variable {X : Cx} {tg e : Expr} {es : List Expr} {pos p : Pos} {da db : DE} {d : DW}
theorem siw_list (ha : SE X e da) : SIW X tg e (wLst da) := ⟨fun W tk => impPI (pi_list (ha.run W tk)) fun σ H R h =>
  rdW_E (Q := fun x H1 => ∃ a, x = .ref a ∧ (∃ xs, SqL X.K H1 a xs) ∧ R (Itl X.K a) H1) h (fun x m1 ρ env w v H1 s r e k => by
    split at e
    · rename_i w' hw
      cases e
      unfold wkOf at hw
      split at hw
      · rename_i n
        split at hw
        · rename_i ys hy
          cases hw
          obtain ⟨a, rfl, ha⟩ := r
          obtain ⟨vs, h1, h2⟩ := s.mem.at_ _ _ _ hy ha
          exact ⟨a, rfl, ⟨vs, SqL.of h1⟩, k _ (itW_cell ha)⟩
        · cases hw
      · split at hw
        · rename_i ys hy
          cases hw
          obtain ⟨p, vs, rfl, h1, h2⟩ := staD_ok r hy
          exact ⟨p, rfl, ⟨vs, h1 ρ H1 .refl⟩, k _ (itW_stat h1 h2)⟩
        · cases hw
    · cases e) fun x m r m' e => by
    split at e
    · cases e
      exact ⟨⟨_, rfl⟩, rfl⟩
    · cases e⟩
def forW (g : DG) (body : DS) (w : Wk) : Nat → Nat → Ev → Mem → Option (Fl × Mem)
  | 0, i, env, m => (match w i m with
    | some none => some (.nx env, m)
    | _ => none)
  | k + 1, i, env, m => (match w i m with
    | some none => some (.nx env, m)
    | some (some x) => (match g x env m with
      | some (env1, m1) => (match body env1 m1 with
        | some (.nx env2, m2) => forW g body w k (i + 1) env2 m2
        | some (.ct env2, m2) => forW g body w k (i + 1) env2 m2
        | some (.bk env2, m2) => some (.nx env2, m2)
        | r => r)
      | none => none)
    | none => none)
def dForW (d : DW) (g : DG) (body : DS) : DS := fun env m => bindS (d env m) env fun w m => forW g body w.1 w.2 0 env m
theorem ss_forW {body : List Stmt} {g : DG} {db : DS} (hp : PassesOwn (model X.prog X.w) X.A X.env X.xe) (hc : X.calm = true) (hi : SIW X tg e d) (hg : SG X tg g) (hb : SSs X body db)
    (hs : ∀ x, foldedSetIterable e X.env x = pure x := by intro _; rfl) : SS X (.For tg e body [] pos) (dForW d g db) := ⟨fun W tk =>
  impPS (ps_for hp hc (hi.run W tk) (hg.run W tk) (hb.run W tk) hs) fun D σ H ⟨ρ, env, m, f, m', s, e, p⟩ => by
    unfold dForW bindS at e
    split at e
    · cases e
    · rename_i w m1 h0
      refine ⟨ρ, env, m, _, _, s, h0, fun ρ1 H1 M1 E1 J hJ => ?_⟩
      refine ⟨fun i k σ' H' => ∃ ρ' env' m2, S X.K ρ' env' m2 σ' H' ∧ Ext ρ1 H1 ρ' H' ∧ forW g db w.1 k i env' m2 = some (f, m'), ⟨w.2, ρ1, env, m1, ⟨M1, s.env.mono E1⟩, .refl, e⟩, fun i k σ' H' ⟨ρ', env', m2, s', E', e'⟩ => ?_⟩
      obtain ⟨j1, j2⟩ := hJ i ρ' m2 H' E' s'.mem
      have stop : w.1 i m2 = some none → some (Fl.nx env', m2) = some (f, m') → J.stop i H' ∧ D.nx σ' H' := fun hw q => by
        cases q
        exact ⟨j2 hw, p ρ' H' s'.mem (E1.trans E') σ' s'.env⟩
      cases k with
      | zero =>
        unfold forW at e'
        split at e'
        · rename_i hw
          exact .inl (stop hw e')
        · cases e'
      | succ k =>
        unfold forW at e'
        split at e'
        · rename_i hw
          exact .inl (stop hw e')
        · rename_i x hw
          obtain ⟨j3, j4⟩ := j1 x hw
          refine .inr ⟨j3, fun σ2 H2 => ∃ ρ' env' m2, S X.K ρ' env' m2 σ2 H2 ∧ Ext ρ1 H1 ρ' H2 ∧ forW g db w.1 k (i + 1) env' m2 = some (f, m'), fun σ2 H2 h2 => ⟨k, Nat.lt_succ_self k, h2⟩, fun v H2 hy => ?_⟩
          obtain ⟨M2, E2, r2⟩ := j4 v H2 hy
          split at e'
          · rename_i env1 m3 hg'
            refine ⟨ρ', env', m2, x, env1, m3, s'.to E2 M2, r2, hg', fun ρ3 H3 σ3 s3 E3 => ?_⟩
            have E4 := (E'.trans E2).trans E3
            split at e'
            · rename_i env2 m4 hb'
              exact ⟨ρ3, env1, m3, _, _, s3, hb', fun ρ4 H4 M4 E5 σ4 r4 => ⟨ρ4, env2, m4, ⟨M4, r4⟩, E4.trans E5, e'⟩⟩
            · rename_i env2 m4 hb'
              exact ⟨ρ3, env1, m3, _, _, s3, hb', fun ρ4 H4 M4 E5 σ4 r4 => ⟨ρ4, env2, m4, ⟨M4, r4⟩, E4.trans E5, e'⟩⟩
            · rename_i env2 m4 hb'
              cases e'
              exact ⟨ρ3, env1, m3, _, _, s3, hb', fun ρ4 H4 M4 E5 σ4 r4 => p ρ4 H4 M4 (E1.trans (E4.trans E5)) σ4 r4⟩
            · rename_i r0 n1 n2 n3
              refine ⟨ρ3, env1, m3, f, m', s3, e', fun ρ4 H4 M4 E5 => ?_⟩
              have pp := p ρ4 H4 M4 (E1.trans (E4.trans E5))
              cases f with
              | rt v => exact pp
              | ex c fs env2 => exact pp
              | nx env2 => exact absurd e' (n1 env2 m')
              | ct env2 => exact absurd e' (n2 env2 m')
              | bk env2 => exact absurd e' (n3 env2 m')
          · cases e'
        · cases e'
    · rename_i c fs m1 h0
      cases e
      exact ⟨ρ, env, m, _, _, s, h0, fun ρ' H' M E dd x => p ρ' H' M E σ (s.env.mono E) dd x⟩⟩
/-! comprehensions -/
def lcW (g : DGc) (dt : DT) (de : DE) (env : Ev) (w : Wk) : Nat → Nat → Mem → Option (List Vl × Mem)
  | 0, i, m => (match w i m with
    | some none => some ([], m)
    | _ => none)
  | k + 1, i, m => (match w i m with
    | some none => some ([], m)
    | some (some x) => (match g x env with
      | some env1 => (match dt env1 m with
        | some (.ok true, m1) => (match de env1 m1 with
          | some (.ok y, m2) => (match lcW g dt de env w k (i + 1) m2 with
            | some (ys, m3) => some (y :: ys, m3)
            | none => none)
          | _ => none)
        | some (.ok false, m1) => lcW g dt de env w k (i + 1) m1
        | _ => none)
      | none => none)
    | none => none)
def dLcW (di : DW) (g : DGc) (dt : DT) (de : DE) (vs : List Nat) : DA := fun env m => bindR (di env m) fun w m => if w.2 ≤ sizeLine then okR (lcW g dt de (wipeE env vs) w.1 w.2 0 m) else none
theorem tLcW_of {K : PySem.W.Frag} {W : WX} {di : DW} {g : DGc} {dt : DT} {de : DE} {vs : List Nat} {σ : L2.St} {H : Hp} {Q : VK} (h : rdL K W (dLcW di g dt de vs) σ H Q) : tLc (rdW K W di) (rdGc K g vs) (rdT K FE dt) (rdE K FE de) vs σ H Q := by
  obtain ⟨ρ, env, m, r, m', s, e, p⟩ := h
  unfold dLcW at e
  unfold bindR at e
  split at e
  · cases e
  · rename_i w m1 h0
    dsimp only at e
    split at e
    · rename_i hz
      refine ⟨ρ, env, m, _, _, s, h0, fun ρ1 H1 M1 E1 J hJ D hD => ?_⟩
      obtain ⟨ys, h2, rfl⟩ := okR_some e
      have oc := M1.fresh hD
      have oz := M1.freshz hD
      refine ⟨fun i k H' => k + i = w.2 ∧ ∃ ρ' m2 acc accv rest, S K ρ' (wipeE env vs) m2 (L2.wipe σ vs) H' ∧ Ext ρ1 H1 ρ' H' ∧ H' D = some (.lst accv) ∧ D ∉ ρ'.c ∧ D ∉ ρ'.z ∧ acc.length ≤ i ∧ RVs K ρ' H' acc accv ∧ lcW g dt de (wipeE env vs) w.1 k i m2 = some (rest, m') ∧ ys = acc ++ rest,
        ⟨w.2, rfl, ρ1, m1, [], [], ys, ⟨M1.laid hD, (s.env.mono (E1.trans (ext_new hD))).wipe vs⟩, ext_new hD, upd_same, oc, oz, Nat.le_refl _, rfl, h2, rfl⟩, fun i k H' ⟨hk, ρ', m2, acc, accv, rest, s', E', hD', nc, nz, hacc, ra, hl, hy⟩ => ?_⟩
      obtain ⟨j1, j2⟩ := hJ i ρ' m2 H' E' s'.mem
      have stop : w.1 i m2 = some none → some (([] : List Vl), m2) = some (rest, m') → J.stop i H' ∧ Q (.ref D) H' := fun hw q => by
        cases q
        refine ⟨j2 hw, p ρ' H' s'.mem (E1.trans E') _ ⟨D, accv, rfl, ⟨nc, nz, E1.none hD⟩, hD', by rw [← ra.length]; omega, ?_⟩⟩
        rw [hy, List.append_nil]
        exact ra
      cases k with
      | zero =>
        unfold lcW at hl
        split at hl
        · rename_i hw
          exact .inl (stop hw hl)
        · cases hl
      | succ k =>
        unfold lcW at hl
        split at hl
        · rename_i hw
          exact .inl (stop hw hl)
        · rename_i x hw
          obtain ⟨j3, j4⟩ := j1 x hw
          refine .inr ⟨j3, fun H2 => k + (i + 1) = w.2 ∧ ∃ ρ' m2 acc accv rest, S K ρ' (wipeE env vs) m2 (L2.wipe σ vs) H2 ∧ Ext ρ1 H1 ρ' H2 ∧ H2 D = some (.lst accv) ∧ D ∉ ρ'.c ∧ D ∉ ρ'.z ∧ acc.length ≤ i + 1 ∧ RVs K ρ' H2 acc accv ∧ lcW g dt de (wipeE env vs) w.1 k (i + 1) m2 = some (rest, m') ∧ ys = acc ++ rest, fun H2 h2 => ⟨k, Nat.lt_succ_self k, h2⟩, fun v H2 hyl => ?_⟩
          obtain ⟨M2, E2, r2⟩ := j4 v H2 hyl
          split at hl
          · rename_i env1 hg
            refine ⟨ρ', _, m2, x, env1, s'.to E2 M2, r2, hg, fun σ3 s3 w3 => ⟨w3.trans (wipe_wipe fun _ h => h), ?_⟩⟩
            have hD2 : H2 D = some (.lst accv) := E2.keep D _ hD' nc
            have back : ∀ {ρ4 : Lay} {m4 : Mem} {H4 : Hp}, Ext ρ' H2 ρ4 H4 → RM K ρ4 m4 H4 → S K ρ4 (wipeE env vs) m4 (L2.wipe σ vs) H4 := fun E4 M4 => s'.to (E2.trans E4) M4
            split at hl
            · rename_i m4 ht
              refine goT s3 ht fun ρ4 H4 s4 E4 => ?_
              show rdE K FE de σ3 H4 _
              split at hl
              · rename_i y m5 he
                refine goE s4 he fun ρ5 H5 u s5 E5 ru => ?_
                split at hl
                · rename_i zs m6 hr
                  cases hl
                  have E45 := E4.trans E5
                  have hD5 : H5 D = some (.lst accv) := E45.keep D _ hD2 nc
                  have nc5 : D ∉ ρ5.c := E45.out hD2 nc
                  have nz5 : D ∉ ρ5.z := E45.outz hD2 nz
                  refine ⟨accv, hD5, by rw [← ra.length]; omega, by omega, ρ5, m5, acc ++ [y], accv ++ [u], zs, ?_⟩
                  have sb := back E45 s5.mem
                  refine ⟨sb.priv nc5 nz5 hD5, ((E'.trans E2).trans E45).priv hD, upd_same, nc5, nz5, by rw [List.length_append]; show acc.length + 1 ≤ _; omega, ?_, hr, by rw [hy, List.append_assoc]; rfl⟩
                  exact RVs.priv nc5 nz5 hD5 _ ((ra.mono (E2.trans E45)).append ⟨u, [], rfl, ru, rfl⟩)
                · cases hl
              · cases hl
            · rename_i m4 ht
              refine goT s3 ht fun ρ4 H4 s4 E4 => ?_
              show _ ∧ _
              refine ⟨by omega, ρ4, m4, acc, accv, rest, back E4 s4.mem, (E'.trans E2).trans E4, E4.keep D _ hD2 nc, E4.out hD2 nc, E4.outz hD2 nz, by omega, ra.mono (E2.trans E4), hl, hy⟩
            · cases hl
          · cases hl
        · cases hl
    · cases e
  · rename_i c fs m1 h0
    cases e
    exact ⟨ρ, env, m, _, _, s, h0, fun ρ' H' M E dd x => p ρ' H' M E dd x⟩
/-- [e for x in xs if t]: a new list -/
theorem sl_lcW {elt tg iter : Expr} {ifs : List Expr} {scope : Scope} {own : List (Str × Nat)} {di : DW} {g : DGc} {dt : DT} {de : DE} (hc : X.calm = true) (hN : X.N.Nodup) (hi : SIW X tg iter di) (ok : BlkOk X.N X.env.scope scope own)
    (hg : ∀ (s : Shared) (H : Hp) (C : Addr) (cl : List (Str × Addr)) (fp : List Addr), SGc (X.blk s H scope (compEnvC scope cl C X.env) fp) tg g (own.map (·.2))) (ht : ∀ (s : Shared) (H : Hp) (C : Addr) (cl : List (Str × Addr)) (fp : List Addr), STs (X.blk s H scope (compEnvC scope cl C X.env) fp) ifs dt)
    (he : ∀ (s : Shared) (H : Hp) (C : Addr) (cl : List (Str × Addr)) (fp : List Addr), SE (X.blk s H scope (compEnvC scope cl C X.env) fp) elt de) (hs : ∀ x, foldedSetIterable iter X.env x = pure x := by intro _; rfl) :
    SL X (.ListComp elt [⟨tg, iter, ifs, 0⟩] scope pos) (dLcW di g dt de (own.map (·.2))) := ⟨fun W tk =>
  impPE (pe_lc hc hN (hi.run W tk) ok (fun s H C cl fp => (hg s H C cl fp).run) (fun s H C cl fp => (ht s H C cl fp).run FE takesF) (fun s H C cl fp => (he s H C cl fp).run FE takesF) hs) fun σ H Q h => tLcW_of h⟩
theorem ss_setLcW {i : Nat} {y : Str} {py spos : Pos} {cell : Bool} {elt tg iter : Expr} {ifs : List Expr} {scope : Scope} {own : List (Str × Nat)} {di : DW} {g : DGc} {dt : DT} {de : DE} (hc : X.calm = true) (hN : X.N.Nodup) (hy : X.N[i]? = some y) (hyl : X.env.scope.names.lookup y = some .local)
    (hsw : swapsWith (.ListComp elt [⟨tg, iter, ifs, 0⟩] scope pos) (some (.Name y py)) spos.line X.env = pure true) (hi : SIW X tg iter di) (ok : BlkOk X.N X.env.scope scope own)
    (hg : ∀ (s : Shared) (H : Hp) (C : Addr) (cl : List (Str × Addr)) (fp : List Addr), SGc (X.blk s H scope (compEnvC scope cl C X.env) fp) tg g (own.map (·.2))) (ht : ∀ (s : Shared) (H : Hp) (C : Addr) (cl : List (Str × Addr)) (fp : List Addr), STs (X.blk s H scope (compEnvC scope cl C X.env) fp) ifs dt)
    (he : ∀ (s : Shared) (H : Hp) (C : Addr) (cl : List (Str × Addr)) (fp : List Addr), SE (X.blk s H scope (compEnvC scope cl C X.env) fp) elt de) (hs : ∀ x, foldedSetIterable iter X.env x = pure x := by intro _; rfl) :
    SS X (.Assign [.Name y py] (.ListComp elt [⟨tg, iter, ifs, 0⟩] scope pos) spos) (dAsgL i cell (dLcW di g dt de (own.map (·.2)))) := ⟨fun W tk =>
  impPS (ps_setLc hc hN hy hyl hsw (hi.run W tk) ok (fun s H C cl fp => (hg s H C cl fp).run) (fun s H C cl fp => (ht s H C cl fp).run FE takesF) (fun s H C cl fp => (he s H C cl fp).run FE takesF) hs) fun D σ H ⟨ρ, env, m, f, m', s, e, p⟩ => by
    refine tLcW_of (W := W) (g := g) (dt := dt) (de := de) ?_
    unfold dAsgL bindS at e
    split at e
    · cases e
    · rename_i xs m1 h0
      refine goL s h0 fun ρ' H' a vs s' E w h3 h4 r => ?_
      show D.nx (σ.set i (some (.ref a))) H'
      cases cell with
      | true =>
        dsimp only at e
        rw [if_pos rfl] at e
        cases e
        have s2 := s'.cel (c := .lst xs) w.c w.z h3 rfl ⟨vs, h3, r⟩
        exact p _ H' s2.mem (E.toCel w) _ (s2.env.set ⟨a, rfl, by
          show (ρ'.c ++ [a])[m1.length]? = some a
          rw [← s'.mem.len]
          simp⟩)
      | false =>
        dsimp only at e
        rw [if_neg (by decide)] at e
        cases e
        have s2 := s'.frz w.c h3
        exact p _ H' s2.mem (E.toFrz w) _ (s2.env.set ⟨a, vs, rfl, ⟨mem_frz.mpr (.inr rfl), w.c⟩, h3, r.frz w.c⟩)
    · rename_i c fs m1 h0
      cases e
      exact exL s h0 fun ρ' H' dd s' E r => p ρ' H' s'.mem E σ s'.env dd r⟩
end
end Z
namespace Z
open PySem PySem.Spec PyProof.Rows L2
/-! ### what the readings compute, step by step -/
section
variable {α β : Type} {env env' : Ev} {m m' : Mem} {v w x y : Vl} {a : α} {c : Str} {fs : List (Str × Vl)} {da db de : DE} {d dk : DA} {d1 d2' : DS} {t u : DT} {i j : Nat} {k n : Int}
@[simp] theorem thenS_nx {f : Ev → Mem → Option (Fl × Mem)} : thenS (some (.nx env, m)) f = f env m := rfl
@[simp] theorem thenS_rt {f : Ev → Mem → Option (Fl × Mem)} : thenS (some (.rt v, m)) f = some (.rt v, m) := rfl
@[simp] theorem thenS_bk {f : Ev → Mem → Option (Fl × Mem)} : thenS (some (.bk env, m)) f = some (.bk env, m) := rfl
@[simp] theorem thenS_ct {f : Ev → Mem → Option (Fl × Mem)} : thenS (some (.ct env, m)) f = some (.ct env, m) := rfl
@[simp] theorem thenS_ex {f : Ev → Mem → Option (Fl × Mem)} : thenS (some (.ex c fs env, m)) f = some (.ex c fs env, m) := rfl
@[simp] theorem thenS_none {f : Ev → Mem → Option (Fl × Mem)} : thenS none f = none := rfl
@[simp] theorem bindR_ok {f : α → Mem → Option (R β × Mem)} : bindR (some (.ok a, m)) f = f a m := rfl
@[simp] theorem bindR_ex {f : α → Mem → Option (R β × Mem)} : bindR (some (.ex c fs, m)) f = some (.ex c fs, m) := rfl
@[simp] theorem bindR_none {f : α → Mem → Option (R β × Mem)} : bindR (none : Option (R α × Mem)) f = none := rfl
@[simp] theorem bindS_ok {f : α → Mem → Option (Fl × Mem)} : bindS (some (.ok a, m)) env f = f a m := rfl
@[simp] theorem bindS_ex {f : α → Mem → Option (Fl × Mem)} : bindS (some ((.ex c fs : R α), m)) env f = some (.ex c fs env, m) := rfl
@[simp] theorem bindS_none {f : α → Mem → Option (Fl × Mem)} : bindS (none : Option (R α × Mem)) env f = none := rfl
@[simp] theorem okR_s {z : α} : okR (some (z, m)) = some (.ok z, m) := rfl
@[simp] theorem okR_n : okR (none : Option (α × Mem)) = none := rfl
@[simp] theorem dC_ap : dC v env m = some (.ok v, m) := rfl
theorem dVar_ap (h : env[i]? = some (some v)) : dVar i env m = some (.ok v, m) := by unfold dVar; rw [h]
@[simp] theorem dVar_z {e : Ev} : dVar 0 (some v :: e) m = some (.ok v, m) := rfl
@[simp] theorem dVar_s {o : Option Vl} {e : Ev} : dVar (i + 1) (o :: e) m = dVar i e m := rfl
@[simp] theorem d2_ap {f : F2} : d2 f da db env m = bindR (da env m) fun x m => bindR (db env m) fun y m => okR (f x y m) := rfl
@[simp] theorem b2_ap {f : F2} : b2 f da db env m = bindR (da env m) fun x m => bindR (db env m) fun y m => match f x y m with
  | some (.bl k, m) => some (.ok k, m)
  | _ => none := rfl
@[simp] theorem tB_ap : tB' da env m = bindR (da env m) fun x m => match x with
  | .bl k => some (.ok k, m)
  | _ => none := rfl
@[simp] theorem tTr_ap : tTr da env m = bindR (da env m) fun x m => match truD m x with
  | some b => some (.ok b, m)
  | none => none := rfl
@[simp] theorem truD_bl {b : Bool} : truD m (.bl b) = some b := rfl
@[simp] theorem truD_int {b : Int} : truD m (.int b) = some (b != 0) := rfl
@[simp] theorem truD_non : truD m .non = some false := rfl
@[simp] theorem truD_lst {xs : List Vl} : truD m (.lst xs) = some (!xs.isEmpty) := rfl
@[simp] theorem truD_tup {xs : List Vl} : truD m (.tup xs) = some (!xs.isEmpty) := rfl
@[simp] theorem tAnd2_ap : tAnd2 t u env m = bindR (t env m) fun b m => if b = true then u env m else some (.ok false, m) := rfl
@[simp] theorem tOr2_ap : tOr2 t u env m = bindR (t env m) fun b m => if b = true then some (.ok true, m) else u env m := rfl
@[simp] theorem tNot1_ap : tNot1 t env m = bindR (t env m) fun b m => some (.ok (!b), m) := rfl
@[simp] theorem dIf_ap : dIf t da db env m = bindR (t env m) fun b m => if b = true then da env m else db env m := rfl
@[simp] theorem dCons_ap : dCons da d env m = bindR (da env m) fun x m => bindR (d env m) fun xs m => some (.ok (x :: xs), m) := rfl
@[simp] theorem dNone_ap : dNone env m = some (.ok [], m) := rfl
@[simp] theorem dTup_ap : dTup d env m = bindR (d env m) fun xs m => if xs.length ≤ sizeLine then some (.ok (.tup xs), m) else none := rfl
@[simp] theorem dLst_ap : dLst d env m = bindR (d env m) fun xs m => if xs.length ≤ sizeLine then some (.ok xs, m) else none := rfl
@[simp] theorem dFrz_ap : dFrz d env m = bindR (d env m) fun xs m => some (.ok (.lst xs), m) := rfl
@[simp] theorem dNew_ap : dNew d env m = bindR (d env m) fun xs m => some (.ok (.obj m.length), m ++ [.lst xs]) := rfl
@[simp] theorem dB_ap {f : FB} : dB f d env m = bindR (d env m) fun xs m => okR (f xs m) := rfl
@[simp] theorem dCall_ap {p q : Nat} {gd : List Vl → List Vl → Mem → Option (R Vl × Mem)} : dCall p q gd d dk env m = bindR (d env m) fun xs m => bindR (dk env m) fun ys m => if xs.length = p ∧ ys.length = q then gd xs ys m else none := rfl
@[simp] theorem dNotV_ap : dNotV da env m = bindR (da env m) fun x m => match truD m x with
  | some b => some (.ok (.bl (!b)), m)
  | none => none := rfl
/-! statements -/
@[simp] theorem dSeq_ap : dSeq d1 d2' env m = thenS (d1 env m) d2' := rfl
@[simp] theorem dNil_ap : dNil env m = some (.nx env, m) := rfl
@[simp] theorem dDrop_ap : dDrop de env m = bindS (de env m) env fun _ m => some (.nx env, m) := rfl
@[simp] theorem dRet_ap : dRet de env m = bindS (de env m) env fun x m => some (.rt x, m) := rfl
@[simp] theorem dRetN_ap : dRetN env m = some (.rt .non, m) := rfl
@[simp] theorem dIfS_ap : dIfS t d1 d2' env m = bindS (t env m) env fun b m => if b = true then d1 env m else d2' env m := rfl
@[simp] theorem dAsg_ap : dAsg i de env m = bindS (de env m) env fun x m => some (.nx (env.set i (some x)), m) := rfl
@[simp] theorem dAsgG_ap {g : DG} : dAsgG g de env m = bindS (de env m) env fun x m => match g x env m with
  | some (env', m') => some (.nx env', m')
  | none => none := rfl
@[simp] theorem gVar_ap : gVar i v env m = some (env.set i (some v), m) := rfl
@[simp] theorem gcVar_ap : gcVar i v env = some (env.set i (some v)) := rfl
@[simp] theorem gsNil_ap : gsNil [] env m = some (env, m) := rfl
@[simp] theorem gsCons_ap {g : DG} {gs : List Vl → Ev → Mem → Option (Ev × Mem)} {xs : List Vl} : gsCons g gs (v :: xs) env m = (match g v env m with
  | some (env1, m1) => gs xs env1 m1
  | none => none) := rfl
@[simp] theorem dNever_ap : dNever env m = none := rfl
@[simp] theorem dBrk_ap : dBrk env m = some (.bk env, m) := rfl
@[simp] theorem dCnt_ap : dCnt env m = some (.ct env, m) := rfl
/-! ints -/
@[simp] theorem addA_int : addA (.int k) (.int n) m = some (.int (k + n), m) := rfl
@[simp] theorem subI_int : subI (.int k) (.int n) m = some (.int (k - n), m) := rfl
theorem mulA_int (h : mulC k n = true) : mulA (.int k) (.int n) m = some (.int (k * n), m) := by
  unfold mulA orF mulI intF
  simp only [h, if_true]
theorem mulC_l (h1 : -(2 ^ 64) < k) (h2 : k < 2 ^ 64) : mulC k n = true := by
  unfold mulC
  rw [decide_eq_true h1, decide_eq_true h2]
  rfl
theorem mulC_r (h1 : -(2 ^ 64) < n) (h2 : n < 2 ^ 64) : mulC k n = true := by
  unfold mulC
  rw [decide_eq_true h1, decide_eq_true h2, Bool.or_eq_true]
  exact .inr rfl
theorem divI_int (h : 0 < n) (h2 : n < 1073741824) : divI (.int k) (.int n) m = some (.int (k / n), m) := by
  unfold divI intF
  simp [h, h2]
theorem modI_int (h : 0 < n) : modI (.int k) (.int n) m = some (.int (k % n), m) := by
  unfold modI intF
  simp [h]
theorem powI_int (h : 0 ≤ n) (h2 : n ≤ 1000000) (h3 : k.natAbs < 2 ^ 64) : powI (.int k) (.int n) m = some (.int (k ^ n.toNat), m) := by
  unfold powI intF
  simp only [h, h2, h3, decide_true, Bool.and_self, if_true]
@[simp] theorem ltI_int : ltI (.int k) (.int n) m = some (.bl (decide (k < n)), m) := rfl
@[simp] theorem leI_int : leI (.int k) (.int n) m = some (.bl (decide (k ≤ n)), m) := rfl
@[simp] theorem gtI_int : gtI (.int k) (.int n) m = some (.bl (decide (n < k)), m) := rfl
@[simp] theorem geI_int : geI (.int k) (.int n) m = some (.bl (decide (n ≤ k)), m) := rfl
@[simp] theorem intFn_int : intFn [.int k] m = some (.int k, m) := rfl
@[simp] theorem absF_int : absF [.int k] m = some (.int (if k < 0 then -k else k), m) := rfl
@[simp] theorem two_int {g : Int → Int → Int} : two g [.int k, .int n] m = some (.int (g k n), m) := rfl
theorem lenF_lst {xs : List Vl} : lenF [.lst xs] m = some (.int xs.length, m) := rfl
theorem lenF_frl {xs : List Vl} : lenF [.frl xs] m = some (.int xs.length, m) := rfl
theorem lenF_tup {xs : List Vl} : lenF [.tup xs] m = some (.int xs.length, m) := rfl
theorem lenF_obj {xs : List Vl} (h : m[i]? = some (.lst xs)) : lenF [.obj i] m = some (.int xs.length, m) := by
  unfold lenF seqD
  simp only [h]
/-! == of ints, texts, bools -/
@[simp] theorem eqF_int : eqF (.int k) (.int n) m = some (.bl (decide (k = n)), m) := by
  show some (Vl.bl (decide (V.int k = V.int n)), m) = _
  simp
@[simp] theorem neF_int : neF (.int k) (.int n) m = some (.bl (!decide (k = n)), m) := by
  show some (Vl.bl (!decide (V.int k = V.int n)), m) = _
  simp
@[simp] theorem eqF_bl {p q : Bool} : eqF (.bl p) (.bl q) m = some (.bl (p == q), m) := by
  show some (Vl.bl (decide (V.bl p = V.bl q)), m) = _
  rw [dec_bl]
@[simp] theorem neF_bl {p q : Bool} : neF (.bl p) (.bl q) m = some (.bl (!(p == q)), m) := by
  show some (Vl.bl (!decide (V.bl p = V.bl q)), m) = _
  rw [dec_bl]
@[simp] theorem eqF_str {a b : Str} : eqF (.str a) (.str b) m = some (.bl (a == b), m) := by
  show some (Vl.bl (decide (V.str a = V.str b)), m) = _
  rw [dec_str]
@[simp] theorem neF_str {a b : Str} : neF (.str a) (.str b) m = some (.bl (!(a == b)), m) := by
  show some (Vl.bl (!decide (V.str a = V.str b)), m) = _
  rw [dec_str]
theorem eqF_obj {x y : Vl} (h : flatL x = none ∨ flatL y = none) : eqF x y m = eqW x y m := by
  unfold eqF orF eqS
  rcases h with h | h
  · rw [h]
  · rw [h]
    cases flatL x <;> rfl
theorem neF_obj {x y : Vl} (h : flatL x = none ∨ flatL y = none) : neF x y m = neW x y m := by
  unfold neF orF eqS
  rcases h with h | h
  · rw [h]
  · rw [h]
    cases flatL x <;> rfl
/-! items -/
theorem ixA_lst {xs : List Vl} {q : Int} (h : L2.atI xs q = some v) : ixA (.lst xs) (.int q) m = some (v, m) := by
  unfold ixA orF ixT seqD
  simp only [h]
theorem ixA_frl {xs : List Vl} {q : Int} (h : L2.atI xs q = some v) : ixA (.frl xs) (.int q) m = some (v, m) := by
  unfold ixA orF ixT seqD
  simp only [h]
theorem ixA_tup {xs : List Vl} {q : Int} (h : L2.atI xs q = some v) : ixA (.tup xs) (.int q) m = some (v, m) := by
  unfold ixA orF ixT seqD
  simp only [h]
theorem ixA_obj {xs : List Vl} {q : Int} (hm : m[i]? = some (.lst xs)) (h : L2.atI xs q = some v) : ixA (.obj i) (.int q) m = some (v, m) := by
  unfold ixA orF ixT seqD
  simp only [hm, h]
theorem atI_of {xs : List Vl} {q : Int} (h0 : 0 ≤ q) (h : xs[q.toNat]? = some v) : L2.atI xs q = some v := by
  have hl := (List.getElem?_eq_some_iff.mp h).1
  unfold L2.atI L2.ixN
  rw [if_pos h0, if_pos (by omega)]
  exact h
theorem gSetI_ap {do' di : DE} {n : Nat} {q : Int} {ys : List Vl} {j : Nat} {m1 m2 : Mem} (h1 : do' env m = some (.ok (.obj n), m1)) (h2 : di env m1 = some (.ok (.int q), m2)) (h3 : m2[n]? = some (.lst ys)) (h4 : L2.ixN ys.length q = some j) : gSetI do' di v env m = some (env, m2.set n (.lst (ys.set j v))) := by
  unfold gSetI
  simp only [h1, h2, h3, h4]
theorem getlt {α : Type} {l : List α} {n : Nat} {z : α} (h : l[n]? = some z) : n < l.length := (List.getElem?_eq_some_iff.mp h).1
@[simp] theorem get_set {α : Type} {l : List α} {n : Nat} {z y : α} (h : l[n]? = some z) : (l.set n y)[n]? = some y := by
  rw [List.getElem?_set_self (getlt h)]
theorem set_same {α : Type} {l : List α} {n : Nat} {z : α} (h : l[n]? = some z) : l.set n z = l := by
  obtain ⟨h1, h2⟩ := List.getElem?_eq_some_iff.mp h
  subst h2
  exact List.set_getElem_self h1
end
/-! ### walks whose items leave the memory alone -/
theorem lcW_map {g : DGc} {de : DE} {env : Ev} {n : Nat} {m : Mem} {ys : List Vl} {f : Vl → Vl} (hm : m[n]? = some (.lst ys)) (h : ∀ x ∈ ys, ∃ env1, g x env = some env1 ∧ de env1 m = some (.ok (f x), m)) :
    ∀ k i, k + i = ys.length → lcW g dYes de env (cellW n) k i m = some ((ys.drop i).map f, m)
  | 0, i, hk => by
    unfold lcW cellW
    rw [hm]
    simp only [show ys[i]? = none from List.getElem?_eq_none_iff.mpr (by omega)]
    rw [List.drop_of_length_le (by omega)]
    rfl
  | k + 1, i, hk => by
    have hi : i < ys.length := by omega
    obtain ⟨env1, h1, h2⟩ := h ys[i] (List.getElem_mem hi)
    have ih := lcW_map hm h k (i + 1) (by omega)
    unfold lcW
    have hw : cellW n i m = some (some ys[i]) := by
      unfold cellW
      rw [hm]
      simp only [List.getElem?_eq_getElem hi]
    rw [hw]
    simp only [h1, dYes, h2, ih]
    rw [List.drop_eq_getElem_cons hi, List.map_cons]
theorem lcZ_map {g : DGc} {de : DE} {env : Ev} {m : Mem} {f : Vl → Vl} : ∀ {ys : List Vl}, (∀ x ∈ ys, ∃ env1, g x env = some env1 ∧ de env1 m = some (.ok (f x), m)) → lcZ g dYes de env ys m = some (ys.map f, m)
  | [], _ => rfl
  | x :: xs, h => by
    obtain ⟨env1, h1, h2⟩ := h x List.mem_cons_self
    have ih := lcZ_map (ys := xs) fun y hy => h y (List.mem_cons_of_mem _ hy)
    unfold lcZ
    simp only [h1, dYes, h2, ih, List.map_cons]
/-- a for statement that keeps what P says -/
theorem forL_inv {g : DG} {body : DS} (P : Ev → Mem → Prop) : ∀ {xs : List Vl} {env : Ev} {m : Mem}, P env m → (∀ x ∈ xs, ∀ env m, P env m → ∃ env1 m1 env2 m2, g x env m = some (env1, m1) ∧ body env1 m1 = some (.nx env2, m2) ∧ P env2 m2) → ∃ env' m', forL g body xs env m = some (.nx env', m') ∧ P env' m'
  | [], env, m, h, _ => ⟨env, m, rfl, h⟩
  | x :: xs, env, m, h, hb => by
    obtain ⟨env1, m1, env2, m2, h1, h2, h3⟩ := hb x List.mem_cons_self env m h
    obtain ⟨env', m', h4, h5⟩ := forL_inv P (xs := xs) h3 fun y hy => hb y (List.mem_cons_of_mem _ hy)
    refine ⟨env', m', ?_, h5⟩
    unfold forL
    simp only [h1, h2, h4]
/-! ### what holds behind a reading -/
structure wpO {α : Type} (x : Option (α × Mem)) (Q : α → Mem → Prop) : Prop where
  ex : ∃ a m, x = some (a, m) ∧ Q a m
section
variable {α β : Type} {env env' : Ev} {m m' : Mem} {v : Vl} {Q : Fl → Mem → Prop} {g : DG} {body : DS} {k : Ev → Mem → Option (Fl × Mem)} {xs : List Vl}
theorem wpO_iff {x : Option (α × Mem)} {Q : α → Mem → Prop} : wpO x Q ↔ ∃ a m, x = some (a, m) ∧ Q a m := ⟨fun h => h.ex, fun h => ⟨h⟩⟩
@[simp] theorem wpO_some {a : α} {m : Mem} {Q : α → Mem → Prop} : wpO (some (a, m)) Q = Q a m := propext ⟨fun ⟨_, _, h, q⟩ => by cases h; exact q, fun h => ⟨_, _, rfl, h⟩⟩
@[simp] theorem wpO_none {Q : α → Mem → Prop} : wpO none Q = False := propext ⟨(fun h => by obtain ⟨_, _, e, _⟩ := h; cases e), fun h => False.elim h⟩
theorem wpO_mono {x : Option (α × Mem)} {P Q : α → Mem → Prop} (h : wpO x P) (q : ∀ a m, P a m → Q a m) : wpO x Q := by
  obtain ⟨a, m, h1, h2⟩ := h
  exact ⟨a, m, h1, q _ _ h2⟩
theorem wp_fin {x : Option (α × Mem)} {a : α} (h : wpO x (fun r _ => r = a)) : ∃ m', x = some (a, m') := by
  obtain ⟨r, m', h1, rfl⟩ := wpO_iff.mp h
  exact ⟨m', h1⟩
/-- a loop whose turns all go on -/
theorem wp_for (P : Ev → Mem → Prop) (h0 : P env m) (hs : ∀ x ∈ xs, ∀ env m, P env m → ∃ env1 m1, g x env m = some (env1, m1) ∧ wpO (body env1 m1) (fun f m2 => ∃ e, f = .nx e ∧ P e m2)) (hk : ∀ env' m', P env' m' → wpO (k env' m') Q) : wpO (thenS (forL g body xs env m) k) Q := by
  obtain ⟨env', m', h1, h2⟩ := forL_inv (g := g) (body := body) P (xs := xs) h0 fun x hx env m hp => by
    obtain ⟨env1, m1, h1, h2⟩ := hs x hx env m hp
    obtain ⟨f, m2, h3, e, rfl, h4⟩ := wpO_iff.mp h2
    exact ⟨env1, m1, e, m2, h1, h3, h4⟩
  rw [h1, thenS_nx]
  exact hk env' m' h2
/-- .. the last statement of a body -/
theorem wp_for_last (P : Ev → Mem → Prop) (h0 : P env m) (hs : ∀ x ∈ xs, ∀ env m, P env m → ∃ env1 m1, g x env m = some (env1, m1) ∧ wpO (body env1 m1) (fun f m2 => ∃ e, f = .nx e ∧ P e m2)) (hk : ∀ env' m', P env' m' → Q (.nx env') m') : wpO (forL g body xs env m) Q := by
  obtain ⟨env', m', h1, h2⟩ := forL_inv (g := g) (body := body) P (xs := xs) h0 fun x hx env m hp => by
    obtain ⟨env1, m1, h1, h2⟩ := hs x hx env m hp
    obtain ⟨f, m2, h3, e, rfl, h4⟩ := wpO_iff.mp h2
    exact ⟨env1, m1, e, m2, h1, h3, h4⟩
  exact ⟨_, _, h1, hk env' m' h2⟩
theorem wp_body {n : Nat} {d : DS} {xs : List Vl} {Q : R Vl → Mem → Prop} (h : wpO (d (startZ n xs) m) (fun f m' => match f with
    | .rt v => Q (.ok v) m'
    | .nx _ => Q (.ok .non) m'
    | .ex c fs _ => Q (.ex c fs) m'
    | _ => False)) : wpO (bodyD n d xs m) Q := by
  obtain ⟨f, m', h1, h2⟩ := wpO_iff.mp h
  cases f with
  | rt v => exact ⟨_, _, by unfold bodyD; rw [h1], h2⟩
  | nx e => exact ⟨_, _, by unfold bodyD; rw [h1], h2⟩
  | ex c fs e => exact ⟨_, _, by unfold bodyD; rw [h1], h2⟩
  | _ => exact h2.elim
end
@[simp] theorem dFor_ap {d : DA} {g : DG} {body : DS} {env : Ev} {m : Mem} : dFor d g body env m = bindS (d env m) env fun xs m => forL g body xs env m := rfl
@[simp] theorem dForW_ap {d : DW} {g : DG} {body : DS} {env : Ev} {m : Mem} : dForW d g body env m = bindS (d env m) env fun w m => forW g body w.1 w.2 0 env m := rfl
@[simp] theorem dLc_ap {di : DA} {g : DGc} {dt : DT} {de : DE} {vs : List Nat} {env : Ev} {m : Mem} : dLc di g dt de vs env m = bindR (di env m) fun xs m => if xs.length ≤ sizeLine then okR (lcZ g dt de (wipeE env vs) xs m) else none := rfl
@[simp] theorem dLcW_ap {di : DW} {g : DGc} {dt : DT} {de : DE} {vs : List Nat} {env : Ev} {m : Mem} : dLcW di g dt de vs env m = bindR (di env m) fun w m => if w.2 ≤ sizeLine then okR (lcW g dt de (wipeE env vs) w.1 w.2 0 m) else none := rfl
@[simp] theorem dAsgL_t {i : Nat} {d : DA} {env : Ev} {m : Mem} : dAsgL i true d env m = bindS (d env m) env fun xs m => some (.nx (env.set i (some (.obj m.length))), m ++ [.lst xs]) := rfl
@[simp] theorem dAsgL_f {i : Nat} {d : DA} {env : Ev} {m : Mem} : dAsgL i false d env m = bindS (d env m) env fun xs m => some (.nx (env.set i (some (.lst xs))), m) := rfl
@[simp] theorem wipeE_nil {env : Ev} : wipeE env [] = env := rfl
@[simp] theorem dSl_ap {da : DE} {lo hi : DO} {env : Ev} {m : Mem} : dSl da lo hi env m = bindR (da env m) fun x m => bindR (lo env m) fun l m => bindR (hi env m) fun h m => okR (slD x l h m) := rfl
@[simp] theorem dPart_ap {da : DE} {env : Ev} {m : Mem} : dPart da env m = bindR (da env m) fun x m => match x with
  | .int i => some (.ok (some i), m)
  | _ => none := rfl
def iSeqK : Option (R Vl × Mem) → Option (R (List Vl) × Mem)
  | some (.ok (.tup xs), m) => some (.ok xs, m)
  | some (.ok x, m) => (match staD x with
    | some xs => some (.ok xs, m)
    | none => none)
  | some (.ex c fs, m) => some (.ex c fs, m)
  | none => none
@[simp] theorem iSeqD_ap {da : DE} {env : Ev} {m : Mem} : iSeqD da env m = iSeqK (da env m) := rfl
@[simp] theorem iSeqK_tup {xs : List Vl} {m : Mem} : iSeqK (some (.ok (.tup xs), m)) = some (.ok xs, m) := rfl
@[simp] theorem iSeqK_lst {xs : List Vl} {m : Mem} : iSeqK (some (.ok (.lst xs), m)) = some (.ok xs, m) := rfl
@[simp] theorem iSeqK_frl {xs : List Vl} {m : Mem} : iSeqK (some (.ok (.frl xs), m)) = some (.ok xs, m) := rfl
@[simp] theorem iLst_ap {da : DE} {env : Ev} {m : Mem} : iLst da env m = bindR (da env m) fun x m => match staD x with
  | some xs => some (.ok xs, m)
  | none => none := rfl
@[simp] theorem iTupD_ap {da : DE} {env : Ev} {m : Mem} : iTupD da env m = bindR (da env m) fun x m => match x with
  | .tup xs => some (.ok xs, m)
  | _ => none := rfl
@[simp] theorem wLst_ap {da : DE} {env : Ev} {m : Mem} : wLst da env m = bindR (da env m) fun x m => match wkOf m x with
  | some w => some (.ok w, m)
  | none => none := rfl
@[simp] theorem iRg1_ap {d : DA} {env : Ev} {m : Mem} : iRg1 d env m = bindR (d env m) fun xs m => match rng1 xs with
  | some ys => some (.ok ys, m)
  | none => none := rfl
@[simp] theorem iRg2_ap {d : DA} {env : Ev} {m : Mem} : iRg2 d env m = bindR (d env m) fun xs m => match rng2 xs with
  | some ys => some (.ok ys, m)
  | none => none := rfl
@[simp] theorem iEnm_ap {d : DA} {env : Ev} {m : Mem} : iEnm d env m = bindR (d env m) fun xs m => match xs with
  | [x] => (match staD x with
    | some ys => some (.ok (enumZ ys), m)
    | none => none)
  | _ => none := rfl
@[simp] theorem staD_lst {xs : List Vl} : staD (.lst xs) = some xs := rfl
@[simp] theorem staD_frl {xs : List Vl} : staD (.frl xs) = some xs := rfl
@[simp] theorem le_size {n : Nat} (h : n ≤ 1000) : n ≤ sizeLine := Nat.le_trans h (by decide)
/-! scripts -/
theorem mapO_scal {f : Vl → Option Vl} : ∀ {xs : List Vl}, (∀ x ∈ xs, f x = some x) → mapO f xs = some xs
  | [], _ => rfl
  | x :: xs, h => by
    unfold mapO
    rw [h x List.mem_cons_self]
    simp only [mapO_scal (xs := xs) fun y hy => h y (List.mem_cons_of_mem _ hy)]
theorem cut_all {xs : List Vl} {k : Nat} (h : xs.length ≤ k) : cutZ xs none (some (k : Int)) = xs := by
  unfold cutZ
  rw [HT.sIx_nat, HT.sIx_none, List.drop_zero]
  exact List.take_of_length_le (by simp only [Nat.sub_zero]; omega)
theorem cloL_ints : ∀ {k : Nat} (l : List Int), cloL k (l.map .int) = true
  | _, [] => rfl
  | k, x :: l => by
    show (clo k (.int x) && cloL k (l.map .int)) = true
    rw [cloL_ints l]
    rfl
/-! fields, texts, packed results -/
@[simp] theorem insD_ins {c : Str} {fs : List (Str × Vl)} {m : Mem} : insD m (.ins c fs) = some (c, fs) := rfl
theorem dFld_ins {cs : List Str} {f : Str} {de : DE} {env : Ev} {m m1 : Mem} {c : Str} {fs : List (Str × Vl)} {v : Vl} (h : de env m = some (.ok (.ins c fs), m1)) (h1 : cs.contains c = true) (h2 : fs.lookup f = some v) : dFld cs f de env m = some (.ok v, m1) := by
  unfold dFld
  rw [h, bindR_ok]
  simp only [insD_ins, h1, h2, if_true]
@[simp] theorem dFld_ap {cs : List Str} {f : Str} {de : DE} {env : Ev} {m : Mem} : dFld cs f de env m = bindR (de env m) fun x m => match insD m x with
  | some (c, fs) => if cs.contains c = true then (match fs.lookup f with
    | some v => some (.ok v, m)
    | none => none) else none
  | none => none := rfl
@[simp] theorem dAndV_ap {da db : DE} {env : Ev} {m : Mem} : dAndV da db env m = bindR (da env m) fun x m => match truD m x with
  | some true => db env m
  | some false => some (.ok x, m)
  | none => none := rfl
@[simp] theorem dOrV_ap {da db : DE} {env : Ev} {m : Mem} : dOrV da db env m = bindR (da env m) fun x m => match truD m x with
  | some true => some (.ok x, m)
  | some false => db env m
  | none => none := rfl
theorem fresh_val {gd : List Vl → List Vl → Mem → Option (R Vl × Mem)} {xs ys : List Vl} {m m1 : Mem} {fu : Nat} {x y : Vl} (h : gd xs ys [] = some (.ok x, m1)) (hx : cloL 0 xs = true) (hy : cloL 0 ys = true) (hz : cnv [] m.length m1 fu x = some y) : freshG kNone fu gd xs ys m = some (.ok y, m) := by
  unfold freshG freshR
  rw [hx, hy, h]
  have e : cellsK [] m.length m1 fu = some [] := rfl
  simp [kNone, hz, e]
theorem fresh_top {gd : List Vl → List Vl → Mem → Option (R Vl × Mem)} {xs ys zs : List Vl} {m : Mem} {fu : Nat} (h : gd xs ys [] = some (.ok (.obj 0), [.lst zs])) (hx : cloL 0 xs = true) (hy : cloL 0 ys = true) (hz : ∀ z ∈ zs, cnv [0] m.length [.lst zs] (fu + 1) z = some z) :
    freshG kTop (fu + 1) gd xs ys m = some (.ok (.obj m.length), m ++ [.lst zs]) := by
  have e1 : cnv [0] m.length [.lst zs] (fu + 1) (.obj 0) = some (.obj m.length) := rfl
  have e2 : cellsK [0] m.length [.lst zs] (fu + 1) = some [.lst zs] := by
    unfold cellsK mapO
    have : cnvC [0] m.length [.lst zs] (fu + 1) (.lst zs) = some (.lst zs) := by
      show (mapO (cnv [0] m.length [.lst zs] (fu + 1)) zs).map Cell.lst = _
      rw [mapO_scal hz]
      rfl
    simp only [List.getElem?_cons_zero, this, mapO]
  unfold freshG freshR
  rw [hx, hy, h]
  simp [kTop, e1, e2]
theorem cnv_ints {keep : List Nat} {b : Nat} {m : Mem} {fu : Nat} (l : List Int) : cnv keep b m (fu + 2) (.lst (l.map .int)) = some (.lst (l.map .int)) := by
  show (mapO (cnv keep b m (fu + 1)) (l.map .int)).map Vl.lst = _
  rw [mapO_scal fun x hx => ?_]
  · rfl
  · obtain ⟨i, _, rfl⟩ := List.mem_map.mp hx
    rfl
end Z
namespace Z
open PySem PySem.Spec PyProof.Rows L2
/-! ### exceptions are caught: from then on they are values -/
theorem exq_ok {P : Program} {w : World} {H : Hp} {h : Heap} {a C : Addr} {d : Option Addr} {oe : Obj} {vs : Array Value} (h1 : h.get? a = some oe) (h2 : oe.cls = .ref C) (h3 : oe.dict = d) (h4 : oe.data = .fields vs) : ObjOk P w H h a (exq a C d) :=
  ⟨⟨oe, vs, h1, h2, h3, h4⟩, ⟨oe, h1⟩, fun g1 g2 ⟨oe, vs, q1, q2⟩ k => ⟨oe, vs, k _ q1, q2⟩⟩
section
variable {X : Cx} {pins : List (Addr × Obj)} {σ : L2.St} {H : Hp} {s : Shared} {a : Addr} {oe : Obj} {o : HO}
/-- an object of ours that was not told of is told of from now on -/
theorem Inv.track (I : Inv X pins σ H s) (ha : s.heap.get? a = some oe) (hn : H a = none) (h0 : X.s_0.heap.get? a = none) (nL : a ≠ X.env.locals) (nC : ∀ x c, X.env.cells.lookup x = some c → c ≠ a) (np : ∀ p ∈ X.pn ++ pins, p.1 ≠ a)
    (hob : ObjOk X.prog X.w (upd H a o) s.heap a o) : Inv X pins σ (upd H a o) s := by
  have ne : ∀ {b : Addr} {u : HO}, H b = some u → b ≠ a := fun {b u} e => ne_of_none e hn
  refine ⟨I.ok, I.os, I.bare, ⟨I.base.keep, I.base.slot, fun b ob e n hx => ?_, I.base.there, fun b xs e => ?_, fun b ob u e => ?_, fun b ps e => ?_⟩, I.loc, I.cell, ?_, fun x c e => ?_, fun p hp => ?_, fun b u q => ?_, I.len⟩
  · rw [upd_ne (fun q => by subst q; rw [h0] at e; cases e)]
    exact I.base.free b ob e n hx
  · have := I.base.tups b xs e
    rw [upd_ne (ne this)]
    exact this
  · have := I.base.frzs b ob u e
    rw [upd_ne (ne this)]
    exact this
  · obtain ⟨more, h⟩ := I.base.tbls b ps e
    exact ⟨more, by rw [upd_ne (ne h)]; exact h⟩
  · rw [upd_ne (Ne.symm nL)]
    exact I.free
  · rw [upd_ne (nC x c e)]
    exact I.freeC x c e
  · obtain ⟨e, n, r⟩ := I.pin p hp
    exact ⟨e, by rw [upd_ne (np p hp)]; exact n, r⟩
  · by_cases hb : b = a
    · subst hb
      rw [upd_same] at q
      cases q
      exact hob
    · rw [upd_ne hb] at q
      exact (I.hok b u q).stay (fun _ _ _ q => q) (fun c hc => by rw [upd_ne (ne hc)]; exact hc) fun c xs hc => by rw [upd_ne (ne hc)]; exact hc
end
/-- which class is caught by which clause -/
abbrev ExT := Str → Str → Option Bool
def ExOk (K : PySem.W.Frag) (ex : ExT) : Prop := ∀ c k b, ex c k = some b → PySem.W.exmOne K (.ref (He.ga K c)) (.ref (He.ga K k)) = some b
abbrev Hz := Str × Option Nat × DS
/-- the name of a clause goes -/
def unname (i : Nat) : Option (Fl × Mem) → Option (Fl × Mem)
  | some (.nx env, m) => some (.nx (env.set i none), m)
  | some (.bk env, m) => some (.bk (env.set i none), m)
  | some (.ct env, m) => some (.ct (env.set i none), m)
  | some (.rt v, m) => some (.rt v, m)
  | _ => none
def noEx : Option (Fl × Mem) → Option (Fl × Mem)
  | some (.ex _ _ _, _) => none
  | r => r
def hdZ (ex : ExT) : List Hz → Str → List (Str × Vl) → DS
  | [], c, fs => fun env m => some (.ex c fs env, m)
  | (k, nm, ds) :: r, c, fs => fun env m => match ex c k with
    | none => none
    | some false => hdZ ex r c fs env m
    | some true => (match nm with
      | none => noEx (ds env m)
      | some i => unname i (ds (env.set i (some (.err c fs))) m))
def dTry (ex : ExT) (d : DS) (hs : List Hz) : DS := fun env m => match d env m with
  | some (.ex c fs env1, m1) => hdZ ex hs c fs env1 m1
  | r => r
inductive HdsZ (X : Cx) : List ExceptHandler → List Hz → Prop
  | nil : HdsZ X [] []
  | one {x : Str} {ds : DS} {b₀ : Stmt} {suite : List Stmt} {np pos' : Pos} {hds : List ExceptHandler} {l : List Hz} (hc : Names X x (.ref (He.ga X.K x)))
      (hsu : ∀ (a : Addr) (pn : List (Addr × Obj)), SSs (X.suite a pn) (b₀ :: suite) ds) (r : HdsZ X hds l) : HdsZ X (.ExceptHandler (some (.Name x np)) none (b₀ :: suite) pos' :: hds) ((x, none, ds) :: l)
  | as_ {x n : Str} {i : Nat} {ds : DS} {b₀ : Stmt} {suite : List Stmt} {np pos' : Pos} {hds : List ExceptHandler} {l : List Hz} (hc : Names X x (.ref (He.ga X.K x))) (hi : X.N[i]? = some n) (hln : X.env.kindOf n = some .local)
      (hsu : ∀ (a : Addr) (pn : List (Addr × Obj)), SSs (X.suite a pn) (b₀ :: suite) ds) (r : HdsZ X hds l) : HdsZ X (.ExceptHandler (some (.Name x np)) (some n) (b₀ :: suite) pos' :: hds) ((x, some i, ds) :: l)
/-- what the clauses wish of an exception of the body -/
def wTry (K : PySem.W.Frag) (ex : ExT) (W : WX) (D : Ends) (hs : List Hz) : WX := fun cls dd σ H => ∃ c fs ρ env m f m', cls = .ref (He.ga K c) ∧ S K ρ env m σ H ∧ XD K ρ H dd fs ∧ hdZ ex hs c fs env m = some (f, m') ∧ PoS K ρ H W D f m'
theorem rdS_try {K : PySem.W.Frag} {ex : ExT} {W : WX} {D : Ends} {hs : List Hz} {d : DS} {σ : L2.St} {H : Hp} (h : rdS K W (dTry ex d hs) D σ H) : rdS K (wTry K ex W D hs) d D σ H := by
  obtain ⟨ρ, env, m, f, m', s, e, p⟩ := h
  unfold dTry at e
  split at e
  · rename_i c fs env1 m1 h0
    exact ⟨ρ, env, m, _, _, s, h0, fun ρ' H' M E σ' re dd x => ⟨c, fs, ρ', env1, m1, f, m', rfl, ⟨M, re⟩, x, e, p.mono E⟩⟩
  · rename_i hne
    refine ⟨ρ, env, m, f, m', s, e, fun ρ' H' M E => ?_⟩
    have pp := p ρ' H' M E
    cases f with
    | ex c fs env1 => exact absurd e (hne c fs env1 m')
    | _ => exact pp
/-- the slot i of the frame is emptied behind the flow -/
def goes (i : Nat) (D : Ends) : Ends := ⟨fun σ H => D.nx (σ.set i none) H, D.rt, fun σ H => D.bk (σ.set i none) H, fun σ H => D.ct (σ.set i none) H⟩
theorem po_unname {K : PySem.W.Frag} {ρ : Lay} {H : Hp} {W : WX} {D : Ends} {i : Nat} {g f : Fl} {m2 m' : Mem} (e : unname i (some (g, m2)) = some (f, m')) (p : PoS K ρ H W D f m') :
    PoS K ρ H (fun _ _ _ _ => False) (goes i D) g m2 := fun ρ' H' M E => by
  cases g with
  | nx env => cases e; exact fun σ re => p ρ' H' M E _ re.unset
  | bk env => cases e; exact fun σ re => p ρ' H' M E _ re.unset
  | ct env => cases e; exact fun σ re => p ρ' H' M E _ re.unset
  | rt v => cases e; exact p ρ' H' M E
  | ex c fs env => cases e
theorem po_noEx {K : PySem.W.Frag} {ρ : Lay} {H : Hp} {W : WX} {D : Ends} {g f : Fl} {m2 m' : Mem} (e : noEx (some (g, m2)) = some (f, m')) (p : PoS K ρ H W D f m') : PoS K ρ H (fun _ _ _ _ => False) D g m2 := fun ρ' H' M E => by
  cases g with
  | nx env => cases e; exact p ρ' H' M E
  | bk env => cases e; exact p ρ' H' M E
  | ct env => cases e; exact p ρ' H' M E
  | rt v => cases e; exact p ρ' H' M E
  | ex c fs env => cases e
theorem unname_some {i : Nat} {r : Option (Fl × Mem)} {z : Fl × Mem} (h : unname i r = some z) : ∃ g m, r = some (g, m) := by
  cases r with
  | none => cases h
  | some q => exact ⟨q.1, q.2, rfl⟩
theorem noEx_some {r : Option (Fl × Mem)} {z : Fl × Mem} (h : noEx r = some z) : ∃ g m, r = some (g, m) := by
  cases r with
  | none => cases h
  | some q => exact ⟨q.1, q.2, rfl⟩
theorem rv_err {K : PySem.W.Frag} {ρ : Lay} {m : Mem} {H : Hp} {a : Addr} {c : Str} {fs : List (Str × Vl)} {dd : Option Addr} (M : RM K ρ m H) (x : XD K ρ H dd fs) (na : H a = none) : RV K ρ (upd H a (exq a (He.ga K c) dd)) (.err c fs) (.ref a) := by
  have x' := x.mono (ext_new (ρ := ρ) (o := exq a (He.ga K c) dd) na)
  cases dd with
  | none =>
    have q : fs = [] := x'
    subst q
    exact ⟨a, _, [], rfl, M.fresh na, upd_same, .inr ⟨rfl, rfl⟩, rfl⟩
  | some d =>
    obtain ⟨gs, h1, n, h2⟩ := x'
    exact ⟨a, _, gs, rfl, M.fresh na, upd_same, .inl ⟨d, rfl, n, h1⟩, h2⟩
theorem takesN {Y : Cx} : Takes Y (fun _ _ _ _ => False) := fun _ _ ⟨_, _, _, _, _, _, _, _, _, _, _, _, _, _, _, _, w⟩ => w.elim
/-! an exception that is in our hand -/
/-- a, of the class cls, its dict at dd: noted, its flight none; s is the state with it, sI the one without -/
structure Hand (X : Cx) (pins : List (Addr × Obj)) (a : Addr) (cls : Value) (dd : Option Addr) (σ : L2.St) (H : Hp) (s : Shared) : Prop where
  ex : ∃ (B : Heap) (sI : Shared), Inv X pins σ H sI ∧ (∀ b o, sI.heap.get? b = some o → b ∉ frs X.stack → B.get? b = some o) ∧ sI.heap.UpToSlots s.heap ∧ s.os = sI.os ∧ AllBare s.gens ∧
    HandSPX.FlyingZ B (X.env :: X.outer) a (Zc cls dd) s.heap
  na : H a = none
  stk : X.stack = X.env :: X.outer
  frm : X.env.frame = some X.env.locals
  noex : X.ex = []
section
variable {X Y : Cx} {pins pins' : List (Addr × Obj)} {σ : L2.St} {H : Hp} {s : Shared} {a : Addr} {cls : Value} {dd : Option Addr} {D : Ends}
theorem sp_map {f : Flow} (k : ∀ σ H, Inv Y pins' σ H s → Inv X pins σ H s) (q : SP Y pins' D f s) : SP X pins D f s := by
  cases f with
  | ret u => exact let ⟨v, σ', H', I, r, d⟩ := q; ⟨v, σ', H', k _ _ I, r, d⟩
  | next => exact let ⟨σ', H', I, d⟩ := q; ⟨σ', H', k _ _ I, d⟩
  | brk => exact let ⟨σ', H', I, d⟩ := q; ⟨σ', H', k _ _ I, d⟩
  | cont => exact let ⟨σ', H', I, d⟩ := q; ⟨σ', H', k _ _ I, d⟩
theorem sp_goes {M : Model} {A : Around} {E : Value → Shared → Prop} {f : Flow} {t : Sem Unit} {i : Nat} (k : ∀ σ H Q, Inv Y pins' σ H s → (∀ s', Inv X pins (σ.set i none) H s' → Q () s') → wpAny M A t Q E s)
    (q : SP Y pins' (goes i D) f s) : wpAny M A t (fun _ s' => SP X pins D f s') E s := by
  cases f with
  | ret u => exact let ⟨v, σ', H', I, r, d⟩ := q; k _ _ _ I fun s' J => ⟨v, _, H', J, r, d⟩
  | next => exact let ⟨σ', H', I, d⟩ := q; k _ _ _ I fun s' J => ⟨_, H', J, d⟩
  | brk => exact let ⟨σ', H', I, d⟩ := q; k _ _ _ I fun s' J => ⟨_, H', J, d⟩
  | cont => exact let ⟨σ', H', I, d⟩ := q; k _ _ _ I fun s' J => ⟨_, H', J, d⟩
theorem Hand.inv (h : Hand X pins a cls dd σ H s) : Inv X pins σ H s := let ⟨_, _, I, nb, up, os, ag, fl⟩ := h.ex; I.landed nb fl.1 up os ag
theorem Hand.here (h : Hand X pins a cls dd σ H s) : ∃ (oe : Obj) (vs : Array Value), s.heap.get? a = some oe ∧ oe.cls = cls ∧ oe.dict = dd ∧ oe.data = .fields vs :=
  let ⟨_, _, _, _, _, _, _, fl⟩ := h.ex
  let ⟨oe, vs, e, z, d⟩ := fl.there
  ⟨oe, vs, e, z.1, z.2, d⟩
/-- it is none of the frames -/
theorem Hand.noFrame (h : Hand X pins a cls dd σ H s) : a ∉ frs (X.env :: X.outer) := fun hm => by
  obtain ⟨_, _, _, _, _, _, _, fl⟩ := h.ex
  obtain ⟨oe, vs, e, _, _, d⟩ := h.here
  obtain ⟨_, o, ho, hd⟩ := fl.2.2.1.mem hm
  rw [e] at ho
  cases ho
  exact hd vs d
theorem Hand.apart (h : Hand X pins a cls dd σ H s) : X.s_0.heap.get? a = none ∧ a ≠ X.env.locals ∧ (∀ x c, X.env.cells.lookup x = some c → c ≠ a) ∧ ∀ p ∈ X.pn ++ pins, p.1 ≠ a := by
  have nf := h.noFrame
  have hI := h.inv
  obtain ⟨oe, vs, e, _, _, d⟩ := h.here
  obtain ⟨B, sI, I, nb, up, os, ag, fl⟩ := h.ex
  have nI : sI.heap.get? a = none := by
    rcases hz : sI.heap.get? a with _ | o
    · rfl
    · have := (nb a o hz (by rw [h.stk]; exact nf)).symm.trans fl.2.1
      cases this
  refine ⟨?_, fun z => nf ?_, fun x c hc z => ?_, fun p hp z => ?_⟩
  · rcases hz : X.s_0.heap.get? a with _ | o
    · rfl
    · obtain ⟨o', q⟩ := I.base.there a o hz (by rw [h.noex]; exact fun q => nomatch q)
      cases nI.symm.trans q
  · unfold frs
    rw [List.filterMap_cons, h.frm, z]
    exact List.mem_cons_self
  · obtain ⟨v, o, ho, hd⟩ := hI.cell x c hc
    subst z
    cases e.symm.trans ho
    cases d.symm.trans hd
  · have := (I.pin p hp).1
    rw [z, nI] at this
    cases this
/-- its flight is none once more -/
theorem Hand.again {M : Model} {A : Around} {E : Value → Shared → Prop} {Q : Unit → Shared → Prop} (h : Hand X pins a cls dd σ H s) (k : ∀ s', Hand X pins a cls dd σ H s' → Q () s') : wpAny M A (setFlight (.ref a) none) Q E s := by
  obtain ⟨B, sI, I, nb, up, os, ag, fl⟩ := h.ex
  exact HandSPX.lands_againZ fl fun _ fl' up' => k _ ⟨⟨B, sI, I, nb, up.trans up', os, ag, fl'⟩, h.na, h.stk, h.frm, h.noex⟩
/-- no clause is left: on it flies -/
theorem Hand.onward {W : WX} (h : Hand X pins a cls dd σ H s) (tk : Takes X W) (w : W cls dd σ H) : wpAny (model X.prog X.w) X.A (handleBy (.ref a) X.env []) (SP X pins D) X.xe s := by
  obtain ⟨B, sI, I, nb, up, os, ag, fl⟩ := h.ex
  have go : wpAny (model X.prog X.w) X.A (setFlight (.ref a) X.env.frame) (fun _ s4 => wpAny (model X.prog X.w) X.A (throw (.ref a) : Sem Flow) (SP X pins D) X.xe s4) X.xe s := by
    rw [h.frm]
    exact HandSPX.setFlight_upZ fl fun _ hh up' => wpAny_throw (tk _ _ ⟨a, B, sI, pins, σ, H, cls, dd, rfl, I, nb, up.trans up', .inr (.inr (h.stk ▸ hh)), h.na, os, ag, w⟩)
  obtain ⟨_, _, _, oe, vs, T, _, _, e1, _, e2, e3, _⟩ := id fl
  refine wpAny_handleBy_nil (wpAny_bind (wpAny_field e1 e2 e3 ?_))
  have nt : ¬ ((Value.ref T == Value.none) = true) := by simp
  rw [if_neg nt]
  first
    | exact wpAny_bind go
    | exact wpAny_bind (wpAny_pure (wpAny_bind go))
/-- the suite's state, from ours -/
theorem Hand.suite (h : Hand X pins a cls dd σ H s) : Inv (X.suite a (X.pn ++ pins)) [] σ H s :=
  have I := h.inv
  { ok := I.ok.suite a _, os := I.os, bare := I.bare, base := I.base, loc := I.loc, cell := I.cell, free := I.free, freeC := I.freeC, pin := fun p hp => I.pin p (by simpa using hp), hok := I.hok, len := I.len }
theorem of_suite {pn' : List (Addr × Obj)} (ok : X.Ok) (I : Inv (X.suite a (X.pn ++ pins)) pn' σ H s) : Inv X pins σ H s :=
  { ok := ok, os := I.os, bare := I.bare, base := I.base, loc := I.loc, cell := I.cell, free := I.free, freeC := I.freeC, pin := fun p hp => I.pin p (List.mem_append_left _ hp), hok := I.hok, len := I.len }
theorem to_suite (I : Inv X pins σ H s) : Inv (X.suite a (X.pn ++ pins)) [] σ H s :=
  { ok := I.ok.suite a _, os := I.os, bare := I.bare, base := I.base, loc := I.loc, cell := I.cell, free := I.free, freeC := I.freeC, pin := fun p hp => I.pin p (by simpa using hp), hok := I.hok, len := I.len }
/-- the class of a clause is looked up -/
theorem Hand.test {x : Str} {c : Str} {b : Bool} {np : Pos} {Q : Value → Shared → Prop} {Qb : Bool → Shared → Prop} {E : Value → Shared → Prop} (h : Hand X pins a (.ref (He.ga X.K c)) dd σ H s) (hc : Names X x (.ref (He.ga X.K x))) (q : Q (.ref (He.ga X.K x)) s) :
    wpAny (model X.prog X.w) (X.A.mark (some (.ref a))) (eval (.Name x np) X.env) Q E s := by
  obtain ⟨hg, hd, hm | ⟨hm, hv, hn⟩⟩ := hc
  · exact ld_glob (X := X.suite a (X.pn ++ pins)) h.suite hg hm q hd
  · exact ld_blt (X := X.suite a (X.pn ++ pins)) h.suite hg hm hv q hn hd
theorem Hand.matches {x c : Str} {b : Bool} (h : Hand X pins a (.ref (He.ga X.K c)) dd σ H s) (e : PySem.W.exmOne X.K (.ref (He.ga X.K c)) (.ref (He.ga X.K x)) = some b) : PySem.W.Looks (model X.prog X.w) s.heap (excMatches (.ref a) (.ref (He.ga X.K x))) b := by
  obtain ⟨oe, vs, e1, e2, _⟩ := h.here
  exact PySem.W.exm_one h.inv.kIn (fun _ _ _ _ k q => wpAny_typeOf_ref (k _ _ e1) (by rw [e2]; exact q)) e
end
/-- the clauses of a try, over an exception in our hand -/
theorem handle {X : Cx} {pins : List (Addr × Obj)} {ex : ExT} {W : WX} {D : Ends} {a : Addr} {dd : Option Addr} {c : Str} {fs : List (Str × Vl)} {σ : L2.St} {H : Hp} {s : Shared} (hN : X.N.Nodup) (hE : ExOk X.K ex) (tk : Takes X W) (h : Hand X pins a (.ref (He.ga X.K c)) dd σ H s)
    {ρ : Lay} {env : Ev} {m : Mem} (hS : S X.K ρ env m σ H) (hX : XD X.K ρ H dd fs) : ∀ {hds : List ExceptHandler} {l : List Hz} {f : Fl} {m' : Mem}, HdsZ X hds l → hdZ ex l c fs env m = some (f, m') → PoS X.K ρ H W D f m' →
      wpAny (model X.prog X.w) X.A (handleBy (.ref a) X.env hds) (SP X pins D) X.xe s := by
  have ok := h.inv.ok
  intro hds l f m' hk
  induction hk with
  | nil =>
    intro e p
    cases e
    exact h.onward tk (p ρ H hS.mem .refl σ hS.env dd hX)
  | @one x ds b₀ suite np pos' hds l hc hsu r ih =>
    intro e p
    unfold hdZ at e
    rcases hx : ex c x with _ | b
    · rw [hx] at e
      cases e
    · rw [hx] at e
      refine wpAny_handleBy_cons (codeAny_handlers_test (h.test (Qb := fun _ _ => True) (b := b) hc ((h.matches (hE c x b hx)).here ?_))) (by intro q; cases q)
      cases b with
      | false => exact ih e p
      | true =>
        obtain ⟨g, m2, hg⟩ := noEx_some e
        rw [hg] at e
        refine codeAny_handlers_suite (h.again fun s4 h4 => ?_)
        exact wpAny_mono (((hsu a (X.pn ++ pins)).run (fun _ _ _ _ => False) takesN).run [] s4 σ H D h4.suite ⟨ρ, env, m, g, m2, hS, hg, po_noEx e p⟩) (fun f s6 q => sp_map (fun _ _ I => of_suite ok I) q) fun _ _ z => z.elim
  | @as_ x n i ds b₀ suite np pos' hds l hc hi hln hsu r ih =>
    intro e p
    unfold hdZ at e
    rcases hx : ex c x with _ | b
    · rw [hx] at e
      cases e
    · rw [hx] at e
      refine wpAny_handleBy_cons (codeAny_handlers_test (h.test (Qb := fun _ _ => True) (b := b) hc ((h.matches (hE c x b hx)).here ?_))) (by intro q; cases q)
      cases b with
      | false => exact ih e p
      | true =>
        replace e : unname i (ds (env.set i (some (.err c fs))) m) = some (f, m') := e
        obtain ⟨g, m2, hg⟩ := unname_some e
        rw [hg] at e
        refine codeAny_handlers_suite_as (h.again fun s4 h4 => ?_)
        obtain ⟨oe, vs, e1, e2, e3, e4⟩ := h4.here
        obtain ⟨q0, qL, qC, qP⟩ := h4.apart
        have T4 : Inv X pins σ (upd H a (exq a (He.ga X.K c) dd)) s4 := Inv.track h4.inv e1 h4.na q0 qL qC qP (exq_ok e1 e2 e3 e4)
        have E4 := ext_new (ρ := ρ) (o := exq a (He.ga X.K c) dd) h4.na
        have S4 := hS.to E4 (hS.mem.laid h4.na)
        refine store_ok (X := X.suite a (X.pn ++ pins)) (v := .ref a) (to_suite T4) hN hi (.inl hln) rfl (fun s5 I5 => ?_) (.inr hln)
        exact wpAny_mono (((hsu a (X.pn ++ pins)).run (fun _ _ _ _ => False) takesN).run [] s5 _ _ (goes i D) I5 ⟨ρ, _, m, g, m2, ⟨S4.mem, S4.env.set (rv_err hS.mem hX h4.na)⟩, hg, po_unname e (p.mono E4)⟩)
          (fun f s6 q => sp_goes (fun σ6 H6 Q6 I6 k6 => gone_ok (of_suite ok I6) hN hi hln k6) q) fun _ _ z => z.elim
section
variable {X : Cx} {body : List Stmt} {h₀ : ExceptHandler} {hds : List ExceptHandler} {l : List Hz} {ex : ExT} {d : DS} {pos : Pos}
theorem ss_try (hs : X.stack = X.env :: X.outer) (hf : X.env.frame = some X.env.locals) (hex : X.ex = []) (hN : X.N.Nodup) (hE : ExOk X.K ex)
    (hb : ∀ (pn : List (Addr × Obj)) (xe : Value → Shared → Prop), PassesOwn (model X.prog X.w) X.A X.env xe → SSs (X.tr pn xe) body d)
    (hh : HdsZ X (h₀ :: hds) l) : SS X (.Try body (h₀ :: hds) [] [] pos) (dTry ex d l) := ⟨fun W tk => impPS (t := fun D σ H => rdS X.K (wTry X.K ex W D l) d D σ H) ⟨fun pins s σ H D I h => wpAny_Try_except (by
  have ok := I.ok
  have hb' := hb (X.pn ++ pins) _ (PassesOwn.looking (E₁ := X.xe) (K := fun e s2 => wpAny (model X.prog X.w) X.A (setFlight e none) (fun _ s3 => wpAny (model X.prog X.w) X.A (handleBy e X.env (h₀ :: hds)) (SP X pins D) X.xe s3) X.xe s2))
  refine wpAny_mono ((hb'.run (wTry X.K ex W D l) fun u s' xx => ?_).run [] s σ H D (I.toTry _) h) (fun f s1 q => ?_) fun _ _ he => he
  · obtain ⟨a, B, sI, pins', σ', H', cls, dd, rfl, J, nb, up, sky, na, os, ag, c, fs, ρ, env, m, f, m', rfl, hS, hX, e, p⟩ := xx
    have hfr : X.A.frames = some (X.env :: X.outer) := ok.frames.trans (congrArg some hs)
    refine Sky.land Zc.steady hfr hf (hs ▸ sky) fun h3 fl up3 => ?_
    exact handle (s := { s' with heap := h3 }) hN hE tk ⟨⟨B, sI, J.ofTry ok, nb, up.trans up3, os, ag, fl⟩, na, hs, hf, hex⟩ hS hX hh e p
  · have q2 : SP X pins D f s1 := sp_map (fun _ _ J => J.ofTry ok) q
    cases f with
    | next => exact wpAny_execs_nil q2
    | ret u => exact q2
    | brk => exact q2
    | cont => exact q2)⟩ fun D σ H h => rdS_try h⟩
end
end Z
namespace Z
open PySem PySem.Spec PyProof.Rows L2
/-! ### own errors: a class over a built-in one, whose __init__ says super().__init__(a text), self.f = a parameter -/
structure BaseF (B initId newId : String) (bmB : List Value) : Prop where
  fb : ExcBaseFacts B newId initId bmB
  kf : PySem.W.KxsFacts B initId
  sf : StoreFacts B bmB "object.__setattr__" "object"
theorem base_ValueError : BaseF "ValueError" "ValueError.__init__" "ValueError.__new__" [.type "ValueError", .type "Exception", .type "BaseException", .type "object"] := ⟨F.excBase_ValueError, PySem.W.kxs_ValueError, F.store_ValueError⟩
theorem base_LookupError : BaseF "LookupError" "LookupError.__init__" "LookupError.__new__" [.type "LookupError", .type "Exception", .type "BaseException", .type "object"] := ⟨F.excBase_LookupError, PySem.W.kxs_LookupError, F.store_LookupError⟩
theorem base_RuntimeError : BaseF "RuntimeError" "RuntimeError.__init__" "RuntimeError.__new__" [.type "RuntimeError", .type "Exception", .type "BaseException", .type "object"] := ⟨F.excBase_RuntimeError, PySem.W.kxs_RuntimeError, F.store_RuntimeError⟩
theorem base_OverflowError : BaseF "OverflowError" "OverflowError.__init__" "OverflowError.__new__" [.type "OverflowError", .type "ArithmeticError", .type "Exception", .type "BaseException", .type "object"] := ⟨F.excBase_OverflowError, PySem.W.kxs_OverflowError, F.store_OverflowError⟩
/-- the facts of such a class at C, its field f -/
structure ErrI (P : Program) (K : PySem.W.Frag) (C : Addr) (f : Str) where
  B : String
  initId : String
  newId : String
  bmB : List Value
  base : BaseF B initId newId bmB
  fI : Addr
  cc : Addr
  cda : Addr
  qual : Str
  ar : Arg
  arp : Arg
  scope : Scope
  txt : Str
  p0 : Pos
  p1 : Pos
  p2 : Pos
  p3 : Pos
  p4 : Pos
  p5 : Pos
  q0 : Pos
  q1 : Pos
  q2 : Pos
  q3 : Pos
  ck : Nat
  kV : Value
  doc : Value
  pm : Value
  ct : Value
  an : Option Addr
  oc : Value
  od : Option Addr
  osl : Array (Option Value)
  lk : K.lookup fI = some ⟨oc, od, .func (PySem.W.ksFn "__init__" qual ⟨[], [ar, arp], none, [], [], none, []⟩ [.Expr (.Call (.Attribute (.Call (.Name "super" p0) [] [] p1) "__init__" p2) [.Constant (.str txt) ck p3] [] p4) p5, .Assign [.Attribute (.Name ar.arg q0) f q1] (.Name arp.arg q2) q3] scope .none kV doc pm an (.ref cda) ct cc), osl⟩
  code : PySem.W.codeIn K (.ref cda) qual = true
  cvs : Array Value
  file : Str
  tf : Tok
  ccl : Value
  cdd : Option Addr
  ccs : Array (Option Value)
  lcd : K.lookup cda = some ⟨ccl, cdd, .fields cvs, ccs⟩
  lvs : cvs[2]? = some (.str file tf)
  lfile : (P.main.file == file) = true
  ltop : (P.main.scope.names.lookup ("super" : Str)).isSome = false
  cl : Value
  cld : Option Addr
  csl : Array (Option Value)
  lcell : K.lookup cc = some ⟨cl, cld, .cell (some (.ref C)), csl⟩
  cdC : ClassData
  lC : PySem.W.clsIn K C = some cdC
  sup : scope.names.lookup ("super" : Str) = some .globalImplicit
  scl : scope.names.lookup ("__class__" : Str) = some .free
  sar : scope.names.lookup ar.arg = some .local
  sap : scope.names.lookup arp.arg = some .local
  kind : scope.kind = .function
  co : scope.isCoroutine = false
  gen : scope.isGenerator = false
  nocell : ∀ x ∈ scope.names, x.2 ≠ .cell
  bind : ∀ a b : Value, bindArgs (PySem.W.ksFn "__init__" qual ⟨[], [ar, arp], none, [], [], none, []⟩ [.Expr (.Call (.Attribute (.Call (.Name "super" p0) [] [] p1) "__init__" p2) [.Constant (.str txt) ck p3] [] p4) p5, .Assign [.Attribute (.Name ar.arg q0) f q1] (.Name arp.arg q2) q3] scope .none kV doc pm an (.ref cda) ct cc) ⟨[a, b], []⟩ = pure [(ar.arg, a), (arp.arg, b)]
  pl : Env → Sem Bool
  hev : ∀ env : Env, eval (.Call (.Attribute (.Call (.Name "super" p0) [] [] p1) "__init__" p2) [.Constant (.str txt) ck p3] [] p4) env = (do
      let ov ← attributeBase (.Call (.Name "super" p0) [] [] p1) "__init__" env (eval (.Call (.Name "super" p0) [] [] p1) env)
      standAt p2.atName
      let (f, first) ← holding [ov] (getMethod ov "__init__" (pl env))
      callWith p4 f first (backTo p4 (starEach [.Constant (.str txt) ck p3] env)) [])
  dist : ar.arg ≠ arp.arg
  nodb : (ar.arg == ("__debug__" : Str)) = false
  nodp : (arp.arg == ("__debug__" : Str)) = false
  mroC : PySem.W.mroIn K C (.ref C) = some true
  above : PySem.W.ks_superIn K C C "__init__" = some (some (.builtin initId))
  sub : PySem.W.subIn K (.ref C) (.type B) = some true
  opq : PySem.W.nsIn K cStatics "thirdparty.any" = some none
  xin : PySem.W.excInitIn K C bmB newId = true
  sat : PySem.W.findIn K (.ref C) "__setattr__" = some (some (.builtin "object.__setattr__"))
  over : PySem.W.excOver K C bmB = true
  tak : PySem.W.takerIn K C f = some none
  hdC : PySem.W.hasDictIn K C = true
  ini : PySem.W.findIn K (.ref C) "__init__" = some (some (.ref fI))
  tyI : PySem.W.typeIn K (.ref fI) = some (.type "function")
  exC : PySem.W.subIn K (.ref C) (.type "BaseException") = some true
  tyC : PySem.W.typeIn K (.ref C) = some (.type "type")
  kC : PySem.W.keepIn K (.ref C) = true
section
variable {P : Program} {w : World} {A : Around} {R : Result → Shared → Prop} {K : PySem.W.Frag} {mg mb : Str → Option Value} {hp : Heap} {g : Array GenState} {dr : Drawn} {tk : Nat} {os : OsState} {C : Addr} {f : Str}
theorem mem5 {α : Type} {a b c d e : α} : e ∈ [a, b, c, d, e] := by simp
theorem mem4 {α : Type} {a b c d : α} : d ∈ [a, b, c, d] := by simp
theorem mem3 {α : Type} {a b c : α} : c ∈ [a, b, c] := by simp
/-- the state behind the making of the object, ahead of its __init__ -/
theorem err_init (Er : ErrI P K C f) (X : K.In hp) (hg : hp.Ns mainGlobals mg) (hm : mg "super" = none) (hb : hp.Ns builtinsNs mb) (hbb : ∀ x : Str, x ≠ "__name__" → mb x = bootBuiltins x) (hl : hp.NoLimit) (room : A.depth < recursionLimit) {u : Value}
    (hq : ∀ (h' : Heap) (dx t' : Addr) (hsh : Int) (tq tk' : Nat), (∀ b o, hp.get? b = some o → h'.get? b = some o) → h'.get? (hp.objs.size + 1) = some (PySem.W.excObj C t' (some dx) .none) → h'.get? dx = some (PySem.W.dictOf [⟨hsh, .str f tq, u⟩] 1) →
      hp.objs.size ≤ dx → dx ≠ hp.objs.size + 1 → R (.ok (.ret .none)) ⟨h', g, dr, tk', os⟩) :
    codeAny (model P w) A (.call (.ref Er.fI) ⟨[.ref (hp.objs.size + 1), u], []⟩) R ⟨(hp.push (PySem.W.excTup [u])).push (PySem.W.excObj C hp.objs.size none .none), g, dr, tk, os⟩ := by
  have kk : ∀ b o, hp.get? b = some o → ((hp.push (PySem.W.excTup [u])).push (PySem.W.excObj C hp.objs.size none .none)).get? b = some o := fun b o e => Heap.get?_push_of_some _ (Heap.get?_push_of_some _ e)
  have hx : ((hp.push (PySem.W.excTup [u])).push (PySem.W.excObj C hp.objs.size none .none)).get? (hp.objs.size + 1) = some (PySem.W.excObj C hp.objs.size none .none) := by heap_get
  have ht : ((hp.push (PySem.W.excTup [u])).push (PySem.W.excObj C hp.objs.size none .none)).get? hp.objs.size = some (PySem.W.excTup [u]) := by heap_get
  have hsz : ((hp.push (PySem.W.excTup [u])).push (PySem.W.excObj C hp.objs.size none .none)).objs.size = hp.objs.size + 2 := by rw [Heap.size_push, Heap.size_push]
  have Xk := X.keeps kk
  refine ks_codeAny_call_defAt room (Xk _ _ Er.lk) rfl (hl.keeps kk) (PySem.W.codeRec_of Xk Er.code) rfl (.of_eq (Er.bind _ _)) Er.nocell ?_ (fun h0 hns hk => ?_) Er.co Er.gen Er.kind
  · intro y hy
    rcases List.mem_cons.mp hy with rfl | hy
    · exact Er.sar
    · rcases List.mem_cons.mp hy with rfl | hy
      · exact Er.sap
      · cases hy
  have hL : ((hp.push (PySem.W.excTup [u])).push (PySem.W.excObj C hp.objs.size none .none)).objs.size = hp.objs.size + 2 := hsz
  have nx : hp.get? (hp.objs.size + 1) = none := Heap.get?_none_of_le (Nat.le_add_right _ _)
  have F0 : PyProof.Rows.Fr hp (hp.objs.size + 2) h0 (fun y => [(Er.ar.arg, Value.ref (hp.objs.size + 1)), (Er.arp.arg, u)].reverse.lookup y) := ⟨hL ▸ hns, fun b o e => hk b o (kk b o e), Nat.le_add_right _ 2⟩
  have N0 : PyProof.Rows.News hp (hp.objs.size + 2) h0 [(hp.objs.size + 1, PySem.W.excObj C hp.objs.size none .none)] := fun p hp' => by
    rcases List.mem_cons.mp hp' with rfl | hp'
    · exact ⟨hk _ _ hx, Nat.ne_of_lt (Nat.lt_succ_self _), nx⟩
    · cases hp'
  have X0 : K.In h0 := X.keeps F0.keep
  obtain ⟨oC, hC1, hC2⟩ : ∃ oC, h0.get? C = some oC ∧ oC.data = .cls Er.cdC := by
    have e := Er.lC
    unfold PySem.W.clsIn at e
    split at e
    · rename_i c d cd sl ho
      cases e
      exact ⟨_, X0 _ _ ho, rfl⟩
    · cases e
  have hi : interactive (PySem.W.ksEnv Er.qual Er.scope (hp.objs.size + 2) Er.fI (.ref Er.cda) Er.cc) = false := by
    show ((Er.scope.kind == ScopeKind.module) && _) = false
    rw [Er.kind]
    rfl
  have I0 : PySem.W.InstAt h0 (hp.objs.size + 1) (PySem.W.excObj C hp.objs.size none .none) C none := ⟨hk _ _ hx, rfl, rfl, trivial⟩
  have look1 : ∀ y : Str, y = Er.ar.arg → [(Er.ar.arg, Value.ref (hp.objs.size + 1)), (Er.arp.arg, u)].reverse.lookup y = some (Value.ref (hp.objs.size + 1)) := fun y e => by
    subst e
    have d : (Er.ar.arg == Er.arp.arg) = false := by simpa using Er.dist
    simp [List.lookup, d]
  have look2 : [(Er.ar.arg, Value.ref (hp.objs.size + 1)), (Er.arp.arg, u)].reverse.lookup Er.arp.arg = some u := by simp [List.lookup]
  show _root_.PySem.wpAt (model P w) (A.deeper (PySem.W.ksEnv Er.qual Er.scope _ Er.fI (.ref Er.cda) Er.cc)) _ (execs _ (PySem.W.ksEnv Er.qual Er.scope _ Er.fI (.ref Er.cda) Er.cc)) _ _ _
  rw [hL]
  refine ks_wpAt_execs_cons (ks_wpAt_Expr_any (ks_wpAt_MethodCall ?_ (Er.hev _)) hi)
  refine ks_wpAt_super_base (f := Er.fI) (cc := Er.cda) (ar := Er.ar) Er.sup Er.scl (by decide +kernel) rfl (X0 _ _ Er.lk) rfl rfl rfl (X0 _ _ Er.lcd) rfl Er.lvs Er.lfile Er.ltop ?_
  refine PySem.W.ks_loadName_global Er.kind Er.sup (PySem.Calls.loadGlobal_builtin (hg.keeps F0.keep) hm (hb.keeps F0.keep) ((hbb _ (by decide +kernel)).trans PyProof.Rows.Boot.«super») ⟨rfl, ?_⟩)
  refine wpAny_loadName_free Er.kind Er.scl rfl ⟨_, X0 _ _ Er.lcell, rfl⟩ ?_
  refine wpAny_loadName_local Er.kind Er.sar F0.ns (look1 _ rfl) ?_
  refine ks_wpAny_isType_cls hC1 hC2 ⟨rfl, ?_⟩
  refine ks_wpAny_call_super hC1 hC2 I0.at_ I0.cls (fun c e => nomatch e) (PySem.W.looks_mroIn X0 Er.mroC) (fun h1 e1 k1 => ?_)
  obtain ⟨F1, N1, l1⟩ := PySem.W.ks_newsPush (s := ⟨h0, g, dr, 0, os⟩) F0 N0 rfl e1 k1
  refine PySem.W.kxs_method (pl := Er.pl _) Er.base.kf (s := ⟨h1, g, dr, _, os⟩) F1 X N1 List.mem_cons_self (PySem.W.InstAt.of_exc0 N1 (List.mem_cons_of_mem _ List.mem_cons_self)) Er.opq Er.above Er.sub (by decide +kernel) (fun q h2 F2 N2 l2 => ?_)
  refine PySem.W.kxs_callWith1 N2 List.mem_cons_self ?_
  refine PyProof.Rows.spliced_more (PySem.Calls.Constant_str ?_) (by rfl)
  refine PyProof.Rows.spliced_none ⟨PySem.W.kxs_at N2 List.mem_cons_self, ?_⟩
  have ne1 : h0.objs.size ≠ hp.objs.size + 1 := fun z => absurd (Heap.lt_size (hk _ _ hx)) (by rw [z]; exact Nat.lt_irrefl _)
  have ne2 : q ≠ hp.objs.size + 1 := Nat.ne_of_gt (l2 _ (List.mem_cons_of_mem _ List.mem_cons_self))
  refine PySem.W.kxs_call (s := ⟨h2, g, dr, _, os⟩) F2 X N2 Er.base.fb Er.xin List.mem_cons_self (.tail ne2 (.tail ne1 (.head (fun p hp' => nomatch hp')))) (show 1 ≤ sizeLine by decide) (fun t3 h3 F3 N3 l3 => ?_)
  refine ks_wpAt_execs_cons (ks_wpAt_Assign_Attr (wpAt_of_wpAny (PySem.ESX.ldL F3.ns look2 (PySem.ESX.ldL F3.ns (look1 _ rfl) ?_ Er.kind Er.sar Er.nodb) Er.kind Er.sap Er.nodp)))
  have ne3 : t3 ≠ hp.objs.size + 1 := Nat.ne_of_gt (l3 _ mem3)
  refine PySem.W.set_exc0 (s := ⟨h3, g, dr, _, os⟩) Er.base.sf F3 X N3 mem4 Er.sat Er.over Er.tak Er.hdC rfl (.tail ne3 (.tail ne2 (.tail ne1 (.head (fun p hp' => nomatch hp'))))) (show 1 ≤ 1000 by decide) (fun dx h4 F4 N4 l4 => ?_)
  have lt : hp.objs.size + 1 < dx := l4 _ mem4
  have N5 : PyProof.Rows.News hp (hp.objs.size + 2) h4 [_, _, _, _, (hp.objs.size + 1, PySem.W.excObj C t3 (some dx) .none)] := N4
  have m4 := N5 _ mem5
  have m5 := N5 _ List.mem_cons_self
  exact wpAt_of_wpAny (wpAny_pure (hq h4 dx t3 _ _ _ F4.keep m4.1 m5.1 (Nat.le_of_lt (Nat.lt_of_succ_lt lt)) (Nat.ne_of_gt lt)))
end
/-- the dict of such an error -/
theorem ns1_one {G : Heap} {dx : Addr} {f : Str} {hsh : Int} {tq : Nat} {u : Value} (h : G.get? dx = some (PySem.W.dictOf [⟨hsh, .str f tq, u⟩] 1)) : G.Ns1 dx (fun y => if y = f then some u else none) := by
  refine ⟨_, _, _, h, rfl, ?_, ?_, fun name => ?_⟩
  · intro e he
    have : e = ⟨hsh, .str f tq, u⟩ := by simpa using he
    subst this
    exact ⟨_, _, rfl⟩
  · unfold UniqKeys
    simp
  · by_cases q : name = f
    · subst q
      simp [nsFind, findBy, Value.isStr]
    · have q2 : ¬ f = name := fun z => q z.symm
      simp [nsFind, findBy, Value.isStr, q, q2]
section
variable {X : Cx} {pins : List (Addr × Obj)} {σ : L2.St} {H : Hp} {s : Shared} {C : Addr} {f : Str} {k : Nat}
/-- what C(e) leaves: a the error, dd its dict, sI the state without a -/
structure Made (X : Cx) (pins : List (Addr × Obj)) (σ : L2.St) (H : Hp) (C : Addr) (f : Str) (y : V) (u : Value) (s' : Shared) : Prop where
  ex : ∃ (a dd t : Addr) (sI : Shared), u = .ref a ∧ L2.Inv X pins σ (upd H dd (.xd [(f, y)])) sI ∧ (∀ b o, sI.heap.get? b = some o → s'.heap.get? b = some o) ∧ sI.heap.get? a = none ∧
    s'.heap.get? a = some (PySem.W.excObj C t (some dd) .none) ∧ H a = none ∧ H dd = none ∧ dd ≠ a ∧ s'.os = sI.os ∧ AllBare s'.gens
theorem err_call (Er : ErrI X.prog X.K C f) (I : L2.Inv X pins σ H s) (hm : X.mg "super" = none) (hr : Room (k + 1) X.A) {y : V} {u : Value} (ry : RelV y u) :
    wpAny (model X.prog X.w) X.A (call (.ref C) [u]) (Made X pins σ H C f y) X.xe s := by
  obtain ⟨mb, hb1, hb2⟩ := I.mod.blt
  obtain ⟨nm, N, qn, bs, bm, hdct, sn, sub, ab, col, dc, k0, k1, k2, k3, k5, hC, hT⟩ := PySem.W.excInit_of I.kIn Er.xin
  have glob := I.mod.glob.keeps I.bk
  have blt := hb1.keeps I.bk
  have nol := I.nolimit
  have kin := I.kIn
  have nx : H (s.heap.objs.size + 1) = none := I.hok.fresh (Nat.le_succ _)
  obtain ⟨hp, g, dr, tk, os⟩ := s
  refine wpAny_call (PySem.HandSPX.call_own Er.base.fb hT hC (PySem.W.looks_findIn kin Er.ini) (fun self => PySem.W.bind_fn kin self Er.tyI) (show 1 ≤ sizeLine by decide) (err_init Er kin glob hm blt hb2 nol (hr.make C [u] []).depth fun h' dx t' hsh tq tk' kp e1 e2 l1 l2 => ⟨rfl, ?_⟩))
  have nd : H dx = none := I.hok.fresh l1
  obtain ⟨G, g1, g2⟩ := restrict h' fun b => decide (b ≠ hp.objs.size + 1)
  have gk : ∀ b, b ≠ hp.objs.size + 1 → G.get? b = h'.get? b := fun b hb => g1 b (decide_eq_true hb)
  have gn : G.get? (hp.objs.size + 1) = none := g2 _ (by simp)
  refine ⟨hp.objs.size + 1, dx, t', ⟨G, g, dr, tk', os⟩, rfl, I.laid (fun b o e => ?_) l1 ⟨_, ns1_one ((gk _ l2).trans e2), fun z => ?_⟩, fun b o e => ?_, gn, e1, nx, nd, l2, rfl, I.bare⟩
  · rw [gk b (fun q => by subst q; exact absurd (Heap.lt_size e) (Nat.not_lt.mpr (Nat.le_succ _)))]
    exact kp b o e
  · by_cases q : z = f
    · subst q
      simp [List.lookup]
      exact ry
    · have q' : (z == f) = false := by simpa using q
      simp [List.lookup, q, q']
      trivial
  · by_cases q : b = hp.objs.size + 1
    · subst q
      rw [gn] at e
      cases e
    · rw [gk b q] at e
      exact e
end
/-! ### raise C(e), C(e) as a value -/
abbrev DM := Ev → Mem → Option (R (Str × List (Str × Vl)) × Mem)
def rdM (K : PySem.W.Frag) (W : WX) (d : DM) : L2.St → Hp → XK → Prop := fun σ H Q => ∃ ρ env m r m', S K ρ env m σ H ∧ d env m = some (r, m') ∧ ∀ ρ' H', RM K ρ' m' H' → Ext ρ H ρ' H' → match r with
  | .ok q => ∀ dd, XD K ρ' H' dd q.2 → Q (.ref (He.ga K q.1)) dd H'
  | .ex c fs => ∀ dd, XD K ρ' H' dd fs → W (.ref (He.ga K c)) dd σ H'
structure SMk (X : Cx) (e : Expr) (d : DM) : Prop where
  run : ∀ W, Takes X W → PMk X e (rdM X.K W d)
def dMk (c f : Str) (d : DA) : DM := fun env m => bindR (d env m) fun xs m => match xs with
  | [x] => some (.ok (c, [(f, x)]), m)
  | _ => none
def dErrV (c f : Str) (d : DA) : DE := fun env m => bindR (d env m) fun xs m => match xs with
  | [x] => some (.ok (.err c [(f, x)]), m)
  | _ => none
def dRaise (d : DM) : DS := fun env m => match d env m with
  | some (.ok q, m') => some (.ex q.1 q.2 env, m')
  | some (.ex c fs, m') => some (.ex c fs env, m')
  | none => none
section
variable {X : Cx} {e : Expr} {d : DA} {dm : DM} {c f : Str} {p pos : Pos} {k : Nat}
theorem sm_err (Er : ErrI X.prog X.K (He.ga X.K c) f) (hsup : X.mg "super" = none) (hr : Room (k + 1) X.A) (hm : X.mg c = some (.ref (He.ga X.K c))) (hg : Gl X c) (ha : SA X [e] d) (hdb : (c == ("__debug__" : Str)) = false := by decide)
    (he : starEach (e :: []) X.env = (false, eval e X.env) :: starEach [] X.env := by rfl) : SMk X (.Call (.Name c p) [e] [] pos) (dMk c f d) := ⟨fun W tk pins s σ H Q I h => by
  obtain ⟨ρ, env, m, r, m', st, ee, pp⟩ := h
  have h' : rdA X.K W d σ H (fun vs H1 => ∃ ρ1 x y, vs = [y] ∧ RM X.K ρ1 m' H1 ∧ RV X.K ρ1 H1 x y ∧ ∀ ρ' H', RM X.K ρ' m' H' → Ext ρ1 H1 ρ' H' → ∀ dd, XD X.K ρ' H' dd [(f, x)] → Q (.ref (He.ga X.K c)) dd H') := by
    unfold dMk bindR at ee
    split at ee
    · cases ee
    · rename_i xs m1 h0
      dsimp only at ee
      split at ee
      · rename_i x
        cases ee
        refine goA st h0 fun ρ' H' vs s' E rv => ?_
        obtain ⟨y, ys, rfl, r1, r2⟩ := rv
        have r2' : ys = [] := r2
        subst r2'
        exact ⟨ρ', x, y, rfl, s'.mem, r1, fun ρ2 H2 M2 E2 => pp ρ2 H2 M2 (E.trans E2)⟩
      · cases ee
    · rename_i c' fs' m1 h0
      cases ee
      exact exA st h0 fun ρ' H' dd s' E x => pp ρ' H' s'.mem E dd x
  refine wpAny_Call_Name_kw (ld_glob I hg hm ?_ hdb)
  refine PySem.W.callWith_K (h₀ := X.base) I.ok.mod.kin Er.kC (thn ((ha.run W tk).run pos pins s σ H _ I h') fun us s1 ⟨vs, H1, I1, rl, q⟩ => ⟨I1.kIn, ?_⟩) he rfl
  obtain ⟨ρ1, x, y, rfl, M1, rx, k1⟩ := q
  cases rl with
  | cons r1 r2 =>
    cases r2
    refine wpAny_mono (err_call Er I1 hsup hr r1) (fun u s2 mk => ?_) fun _ _ z => z
    obtain ⟨a, dd, t, sI, rfl, J, kp, na, ea, nh, nd, ne, os, ag⟩ := mk.ex
    have E1 := ext_new (ρ := ρ1) (o := .xd [(f, y)]) nd
    refine ⟨a, _, _, sI, _, .ref (He.ga X.K c), some dd, rfl, J, kp, na, ea, ⟨rfl, rfl⟩, rfl, rfl, by rw [upd_ne (Ne.symm ne)]; exact nh, os, ag, raises_own Er.exC Er.tyC, ?_⟩
    exact k1 ρ1 _ (M1.laid nd) E1 (some dd) ⟨_, upd_same, M1.fresh nd, y, [], rfl, rx.mono E1, rfl⟩⟩
theorem ss_raise (hc : X.calm = true) (h : SMk X e dm) : SS X (.Raise (some e) none pos) (dRaise dm) := ⟨fun W tk => impPS (ps_raise hc tk (h.run W tk)) fun D σ H ⟨ρ, env, m, fl, m', s, ee, p⟩ => by
  unfold dRaise at ee
  split at ee
  · rename_i q m1 h0
    cases ee
    exact ⟨ρ, env, m, _, _, s, h0, fun ρ' H' M E dd x => p ρ' H' M E σ (s.env.mono E) dd x⟩
  · rename_i c' fs m1 h0
    cases ee
    exact ⟨ρ, env, m, _, _, s, h0, fun ρ' H' M E dd x => p ρ' H' M E σ (s.env.mono E) dd x⟩
  · cases ee⟩
/-- C(e) as a value -/
theorem se_errV (Er : ErrI X.prog X.K (He.ga X.K c) f) (hex : X.ex = []) (hsup : X.mg "super" = none) (hr : Room (k + 1) X.A) (hm : X.mg c = some (.ref (He.ga X.K c))) (hg : Gl X c) (ha : SA X [e] d) (hdb : (c == ("__debug__" : Str)) = false := by decide)
    (he : starEach (e :: []) X.env = (false, eval e X.env) :: starEach [] X.env := by rfl) : SE X (.Call (.Name c p) [e] [] pos) (dErrV c f d) := ⟨fun W tk => ⟨fun pins s σ H Q I h => by
  obtain ⟨ρ, env, m, r, m', st, ee, pp⟩ := h
  have h' : rdA X.K W d σ H (fun vs H1 => ∃ ρ1 x y, vs = [y] ∧ RM X.K ρ1 m' H1 ∧ RV X.K ρ1 H1 x y ∧ ∀ ρ' H', RM X.K ρ' m' H' → Ext ρ1 H1 ρ' H' → ∀ v, RV X.K ρ' H' (.err c [(f, x)]) v → Q v H') :=
    bindA st ee pp fun xs m1 ρ1 H1 vs s1 E1 r1 e1 p1 => by
      split at e1
      · rename_i x
        cases e1
        obtain ⟨y, ys, rfl, q1, q2⟩ := r1
        have q2' : ys = [] := q2
        subst q2'
        exact ⟨ρ1, x, y, rfl, s1.mem, q1, fun ρ2 H2 M2 E2 => p1 ρ2 H2 M2 E2⟩
      · cases e1
  refine wpAny_Call_Name_kw (ld_glob I hg hm ?_ hdb)
  refine PySem.W.callWith_K (h₀ := X.base) I.ok.mod.kin Er.kC (thn ((ha.run W tk).run pos pins s σ H _ I h') fun us s1 ⟨vs, H1, I1, rl, q⟩ => ⟨I1.kIn, ?_⟩) he rfl
  obtain ⟨ρ1, x, y, rfl, M1, rx, k1⟩ := q
  cases rl with
  | cons r1 r2 =>
    cases r2
    refine wpAny_mono (err_call Er I1 hsup hr r1) (fun u s2 mk => ?_) fun _ _ z => z
    obtain ⟨a, dd, t, sI, rfl, J, kp, na, ea, nh, nd, ne, os, ag⟩ := mk.ex
    obtain ⟨hI, gI, dI, tI, oI⟩ := sI
    obtain ⟨h2, g2, d2, t2, o2⟩ := s2
    have n0 : X.s_0.heap.get? a = none := by
      rcases hz : X.s_0.heap.get? a with _ | o
      · rfl
      · obtain ⟨o', q⟩ := J.base.there a o hz (by rw [hex]; exact fun q => nomatch q)
        cases na.symm.trans q
    have nh' : upd H1 dd (.xd [(f, y)]) a = none := by rw [upd_ne (Ne.symm ne)]; exact nh
    have J2 : L2.Inv X pins σ (upd H1 dd (.xd [(f, y)])) ⟨h2, g2, d2, t2, o2⟩ := by
      have e : o2 = oI := os
      subst e
      exact J.call' (ch := []) rfl (Un.kept kp) (J.hok.kept kp) ag (fun b z => absurd z (by simp))
    have T2 := Inv.track (o := exq a (He.ga X.K c) (some dd)) J2 ea nh' n0 (fun z => ?_) (fun y' c' hc z => ?_) (fun p hp z => ?_) (exq_ok ea rfl rfl rfl)
    · have E1 := ext_new (ρ := ρ1) (o := .xd [(f, y)]) nd
      have M2 := M1.laid (o := .xd [(f, y)]) nd
      exact ⟨.ref a, _, T2, rfl, k1 ρ1 _ (M2.laid nh') (E1.trans (ext_new nh')) _ (rv_err M2 (dd := some dd) ⟨_, upd_same, M1.fresh nd, y, [], rfl, rx.mono E1, rfl⟩ nh')⟩
    · obtain ⟨mm, hn, _⟩ := J.loc
      obtain ⟨o, _, _, ho, _⟩ := hn
      rw [← z] at ho
      cases na.symm.trans ho
    · obtain ⟨v, o, ho, _⟩ := J.cell y' c' hc
      rw [z] at ho
      cases na.symm.trans ho
    · have := (J.pin p hp).1
      rw [z] at this
      cases na.symm.trans this⟩⟩
end
end Z
namespace Z
open PySem PySem.Spec PyProof.Rows L2
/-! ### an error that is a value: its fields, its kinds -/
structure ErrK (K : PySem.W.Frag) (c : Str) : Prop where
  cl : (PySem.W.clsIn K (He.ga K c)).isSome = true
  ga : PySem.W.findIn K (.ref (He.ga K c)) "__getattribute__" = some (some (.builtin "BaseException.__getattribute__"))
  gg : PySem.W.findIn K (.ref (He.ga K c)) "__getattr__" = some none
  exC : PySem.W.subIn K (.ref (He.ga K c)) (.type "BaseException") = some true
  hdC : PySem.W.hasDictIn K (He.ga K c) = true
  ha : PySem.W.findIn K (.ref (He.ga K c)) "__class__" = some (some (.builtin "object.__class__"))
  hn : PySem.W.specialIn K (.builtin "object.__class__") "__get__" = some (some (.builtin "getset_descriptor.__get__"))
  ht : PySem.W.takesIn K (.builtin "object.__class__") = some true
  hm : PySem.W.mroIn K (He.ga K c) (.type "object") = some true
def ErrA (K : PySem.W.Frag) (cs : List Str) : Prop := ∀ c ∈ cs, ErrK K c
section
variable {X : Cx} {pins : List (Addr × Obj)} {σ : L2.St} {H : Hp} {s : Shared} {a C : Addr} {d : Option Addr} {gs : List (Str × V)} {ρ : Lay}
/-- the error at its address, with its dict -/
theorem err_inst (I : L2.Inv X pins σ H s) (e : H a = some (exq a C d)) (x : ErrD ρ H d gs) : ∃ (ox : Obj) (od : Option Obj), PySem.W.InstAt s.heap a ox C od ∧ ∀ f v, gs.lookup f = some v → ∃ o u, od = some o ∧ PySem.W.lookIn f o = some (some u) ∧ RelV v u := by
  have q : ObjOk X.prog X.w H s.heap a (exq a C d) := I.hok a _ e
  obtain ⟨⟨oe, vs, e1, e2, e3, e4⟩, _⟩ := q
  have nc : PySem.W.notCls oe = true := by
    unfold PySem.W.notCls
    rw [e4]
  rcases x with ⟨dd, rfl, _, hd⟩ | ⟨rfl, rfl⟩
  · have q2 : ObjOk X.prog X.w H s.heap dd (.xd gs) := I.hok dd _ hd
    obtain ⟨mA, hns, hr⟩ := q2
    obtain ⟨od, ho, hl⟩ := lookIn_ns hns
    refine ⟨oe, some od, ⟨e1, e2, nc, by rw [e3]; exact ho⟩, fun f v hv => ?_⟩
    obtain ⟨u, hu, ru⟩ := RelO.some_of (v := v) (o := mA f) (by rw [← hv]; exact hr f)
    exact ⟨od, u, rfl, by rw [hl, hu], ru⟩
  · exact ⟨oe, none, ⟨e1, e2, nc, by rw [e3]; trivial⟩, fun f v hv => nomatch hv⟩
end
/-- e.f -/
def dXf (cs : List Str) (f : Str) (de : DE) : DE := fun env m => bindR (de env m) fun x m => match x with
  | .err c fs => if cs.contains c = true then (match fs.lookup f with
    | some v => some (.ok v, m)
    | none => none) else none
  | _ => none
/-- isinstance(e, c) -/
def dIsE (cs : List Str) (kt : Kit) (de du : DE) : DE := fun env m => bindR (de env m) fun x m => bindR (du env m) fun u m => match x, clsD u with
  | .err c _, some t => if cs.contains c = true then (match kt (.c c) t with
    | some b => some (.ok (.bl b), m)
    | none => none) else none
  | _, _ => none
def dIsET (cs : List Str) (kt : Kit) (de : DE) (d : DA) : DE := fun env m => bindR (de env m) fun x m => bindR (d env m) fun us m => match x, clsDs us with
  | .err c _, some ts => if (cs.contains c && decide (us.length ≤ sizeLine)) = true then (match kitAnyD kt (.c c) ts with
    | some b => some (.ok (.bl b), m)
    | none => none) else none
  | _, _ => none
def rIsE1 (K : PySem.W.Frag) : List V → Hp → VK → Prop := fun xs H Q => ∃ (a : Addr) (c : Str) (d : Option Addr) (gs : List (Str × V)) (ρ : Lay) (t : V) (cv : Value) (b : Bool), xs = [.ref a, t] ∧ H a = some (exq a (He.ga K c) d) ∧ ErrD ρ H d gs ∧ ErrK K c ∧ ClsV t cv ∧ PySem.W.kitOne K (.ref (He.ga K c)) cv = some b ∧ Q (.bl b) H
def rIsE2 (K : PySem.W.Frag) : List V → Hp → VK → Prop := fun xs H Q => ∃ (a tp : Addr) (c : Str) (d : Option Addr) (gs : List (Str × V)) (ρ : Lay) (ts : List V) (ws : List Value) (b : Bool), xs = [.ref a, .ref tp] ∧ H tp = some (.tup ts) ∧ H a = some (exq a (He.ga K c) d) ∧ ErrD ρ H d gs ∧ ErrK K c ∧ Paired ClsV ts ws ∧ PySem.W.kitAny K (.ref (He.ga K c)) ws = some b ∧ Q (.bl b) H
section
variable {X : Cx} {e u : Expr} {es : List Expr} {de du : DE} {da : DA} {cs : List Str} {f : Str} {kt : Kit} {p pos : Pos}
theorem se_xf (he : SE X e de) (hE : ErrA X.K cs) (hf : ∀ c ∈ cs, PySem.W.findIn X.K (.ref (He.ga X.K c)) f = some none) (hb : attributeBase e f X.env (eval e X.env) = eval e X.env := by rfl) : SE X (.Attribute e f pos) (dXf cs f de) := ⟨fun W tk => ⟨fun pins s σ H Q I h => by
  obtain ⟨ρ, env, m, r, m', st, ee, pp⟩ := h
  have h' : rdE X.K W de σ H (fun v H1 => ∃ ρ1 c fs x, RM X.K ρ1 m' H1 ∧ RV X.K ρ1 H1 (.err c fs) v ∧ c ∈ cs ∧ fs.lookup f = some x ∧ ∀ w, RV X.K ρ1 H1 x w → Q w H1) :=
    bindE st ee pp fun y m1 ρ1 H1 v s1 E1 r1 e1 p1 => by
      split at e1
      · rename_i c fs
        split at e1
        · rename_i hc
          split at e1
          · rename_i x hx
            cases e1
            exact ⟨ρ1, c, fs, x, s1.mem, r1, List.contains_iff_mem.mp hc, hx, fun w rw' => p1 ρ1 H1 s1.mem .refl w rw'⟩
          · cases e1
        · cases e1
      · cases e1
  refine attr_of hb (thn ((he.run W tk).run pins s σ H _ I h') fun uu s1 ⟨v, H1, I1, rv, ρ1, c, fs, x, M1, ⟨a, d, gs, ev, n1, ea, xd, rf⟩, hc, hl, k1⟩ => ?_)
  subst ev
  obtain rfl : uu = Value.ref a := rv
  have T := hE c hc
  obtain ⟨w, hw, rw'⟩ := rf.get hl
  obtain ⟨ox, od, J, lk⟩ := err_inst I1 ea xd
  obtain ⟨o, u', rfl, hu, ru⟩ := lk f w hw
  exact HandSPX.exc_get I1.kIn J T.ga T.gg T.exC (PySem.W.findObj_own T.hdC (hf c hc) rfl hu) (handed_of ru) ⟨w, H1, I1.tok _, ru, k1 w rw'⟩⟩⟩
theorem kit_err {K : PySem.W.Frag} {c : Str} (T : ErrK K c) {a : Addr} {ox : Obj} {od : Option Obj} : PySem.W.KitX K (.ref a) (.ref (He.ga K c)) (fun h => PySem.W.InstAt h a ox (He.ga K c) od) := PySem.W.kitx_exc T.cl T.ga T.gg T.exC T.ha T.hn T.ht T.hm
theorem call_isE1 : CallR X (.builtin "isinstance") (rIsE1 X.K) := by
  intro pins s σ H xs us Q I r h
  obtain ⟨a, c, d, gs, ρ, t, cv, b, rfl, ea, xd, T, hc, e, q⟩ := h
  obtain ⟨u1, u2, rfl, r1, r2⟩ := vals2 r
  obtain rfl : u1 = Value.ref a := r1
  obtain rfl : u2 = cv := hc.eq r2
  obtain ⟨ox, od, J, _⟩ := err_inst I ea xd
  exact PySem.W.kia_one (kit_err T) I.kIn J e (fun z => nomatch z) fun tk => ⟨.bl b, H, I.tok tk, rfl, q⟩
theorem call_isE2 : CallR X (.builtin "isinstance") (rIsE2 X.K) := by
  intro pins s σ H xs us Q I r h
  obtain ⟨a, tp, c, d, gs, ρ, ts, ws, b, rfl, hT, ea, xd, T, hc, e, q⟩ := h
  obtain ⟨u1, u2, rfl, r1, r2⟩ := vals2 r
  obtain rfl : u1 = Value.ref a := r1
  obtain rfl : u2 = Value.ref tp := r2
  obtain ⟨ox, od, J, _⟩ := err_inst I ea xd
  have hk : ObjOk X.prog X.w H s.heap tp (.tup ts) := I.hok tp _ hT
  obtain ⟨_, its, rv, o, h1, h2, n, h3⟩ := hk
  obtain ⟨oc, od', dt, sl⟩ := o
  dsimp only at h2 h3
  subst h2 h3
  have e3 := ClsV.all hc rv
  subst e3
  exact PySem.W.kia_tup (kit_err T) I.kIn J h1 e (fun z => nomatch z) fun tk => ⟨.bl b, H, I.tok tk, rfl, q⟩
theorem se_isE (hE : ErrA X.K cs) (hk : KitOk X.K kt) (hg : Gl X "isinstance") (hm : X.mg "isinstance" = none) (he : SE X e de) (hu : SE X u du)
    (hs : starEach [e, u] X.env = (false, eval e X.env) :: starEach [u] X.env := by rfl) (hs2 : starEach [u] X.env = (false, eval u X.env) :: starEach [] X.env := by rfl)
    (hpl : (backTo pos (starEach [u] X.env)).any (·.1) = false := by rfl) : SE X (.Call (.Name "isinstance" p) [e, u] [] pos) (dIsE cs kt de du) := ⟨fun W tk =>
  impPE (pe_callB call_isE1 hg hm (by decide +kernel) (pa_cons (he.run W tk) (pa_cons (hu.run W tk) pa_nil hs2) hs) (by decide) (by decide) hs hpl) fun σ H Q ⟨ρ, env, m, z, m', s, e, p⟩ =>
    bindE s e p fun y m1 ρ1 H1 v s1 E1 r1 e1 p1 => bindE s1 e1 p1 fun t m2 ρ2 H2 w s2 E2 r2 e2 p2 => by
      split at e2
      · rename_i c fs t' ht
        split at e2
        · rename_i hc
          split at e2
          · rename_i b hb
            cases e2
            obtain ⟨a, d, gs, rfl, n1, ea, xd, rf⟩ := r1.mono E2
            exact ⟨a, c, d, gs, ρ2, w, _, b, rfl, ea, xd, hE c (List.contains_iff_mem.mp hc), clsD_ok r2 ht, hk _ _ _ hb, p2 ρ2 H2 s2.mem .refl _ rfl⟩
          · cases e2
        · cases e2
      · cases e2⟩
theorem se_isET {tk' : Nat} {tpos : Pos} (hE : ErrA X.K cs) (hk : KitOk X.K kt) (hg : Gl X "isinstance") (hm : X.mg "isinstance" = none) (he : SE X e de) (ha : SA X es da)
    (hs : starEach [e, .Tuple es tk' tpos] X.env = (false, eval e X.env) :: starEach [.Tuple es tk' tpos] X.env := by rfl) (hs2 : starEach [.Tuple es tk' tpos] X.env = (false, eval (.Tuple es tk' tpos) X.env) :: starEach [] X.env := by rfl)
    (hpl : (backTo pos (starEach [.Tuple es tk' tpos] X.env)).any (·.1) = false := by rfl) : SE X (.Call (.Name "isinstance" p) [e, .Tuple es tk' tpos] [] pos) (dIsET cs kt de da) := ⟨fun W tk =>
  impPE (pe_callB call_isE2 hg hm (by decide +kernel) (pa_cons (he.run W tk) (pa_cons (pe_tup (ha.run W tk)) pa_nil hs2) hs) (by decide) (by decide) hs hpl) fun σ H Q ⟨ρ, env, m, z, m', s, e, p⟩ =>
    bindE s e p fun y m1 ρ1 H1 v s1 E1 r1 e1 p1 => bindA s1 e1 p1 fun us m2 ρ2 H2 vs s2 E2 r2 e2 p2 => by
      split at e2
      · rename_i c fs ts hts
        split at e2
        · rename_i hc
          rw [Bool.and_eq_true, decide_eq_true_eq] at hc
          split at e2
          · rename_i b hb
            cases e2
            refine ⟨by rw [← r2.length]; exact hc.2, fun q hq => ?_⟩
            have E3 : Ext ρ2 H2 ρ2 (upd H2 q (.tup vs)) := ext_new hq
            have M3 : RM X.K ρ2 _ (upd H2 q (.tup vs)) := s2.mem.laid hq
            obtain ⟨a, d, gs, rfl, n1, ea, xd, rf⟩ := (r1.mono E2).mono E3
            exact ⟨a, q, c, d, gs, ρ2, vs, _, b, rfl, upd_same, ea, xd, hE c (List.contains_iff_mem.mp hc.1), clsDs_ok r2 hts, kitAnyD_ok hk hb, p2 ρ2 _ M3 E3 _ rfl⟩
          · cases e2
        · cases e2
      · cases e2⟩
end
end Z
namespace Z
open PySem PySem.Spec PyProof.Rows L2
/-! ### facts of own errors that the head's run checks -/
def ckErrK (cs : List Str) : Ck := fun K => cs.all fun c => (PySem.W.clsIn K (He.ga K c)).isSome && (He.eqO (PySem.W.findIn K (.ref (He.ga K c)) "__getattribute__") (some (some (.builtin "BaseException.__getattribute__"))) && (He.eqO (PySem.W.findIn K (.ref (He.ga K c)) "__getattr__") (some none) &&
  (decide (PySem.W.subIn K (.ref (He.ga K c)) (.type "BaseException") = some true) && (PySem.W.hasDictIn K (He.ga K c) && (He.eqO (PySem.W.findIn K (.ref (He.ga K c)) "__class__") (some (some (.builtin "object.__class__"))) && (He.eqO (PySem.W.specialIn K (.builtin "object.__class__") "__get__") (some (some (.builtin "getset_descriptor.__get__"))) &&
  (decide (PySem.W.takesIn K (.builtin "object.__class__") = some true) && decide (PySem.W.mroIn K (He.ga K c) (.type "object") = some true))))))))
theorem ckErrK_ok {K : PySem.W.Frag} {cs : List Str} (h : ckErrK cs K = true) : ErrA K cs := fun c hc => by
  have := List.all_eq_true.mp h c hc
  simp only [Bool.and_eq_true, decide_eq_true_eq] at this
  obtain ⟨h1, h2, h3, h4, h5, h6, h7, h8, h9⟩ := this
  exact ⟨h1, He.eqO_ok h2, He.eqO_ok h3, h4, h5, He.eqO_ok h6, He.eqO_ok h7, h8, h9⟩
def ckXfN (cs : List Str) (f : Str) : Ck := fun K => cs.all fun c => He.eqO (PySem.W.findIn K (.ref (He.ga K c)) f) (some none)
theorem ckXfN_ok {K : PySem.W.Frag} {cs : List Str} {f : Str} (h : ckXfN cs f K = true) : ∀ c ∈ cs, PySem.W.findIn K (.ref (He.ga K c)) f = some none := fun c hc => He.eqO_ok (List.all_eq_true.mp h c hc)
def exTb (tb : List (Str × Str × Bool)) : ExT := fun c k => match tb.find? fun p => decide (p.1 = c) && decide (p.2.1 = k) with
  | some p => some p.2.2
  | none => none
def ckExm (tb : List (Str × Str × Bool)) : Ck := fun K => tb.all fun p => decide (PySem.W.exmOne K (.ref (He.ga K p.1)) (.ref (He.ga K p.2.1)) = some p.2.2)
theorem ckExm_ok {K : PySem.W.Frag} {tb : List (Str × Str × Bool)} (h : ckExm tb K = true) : ExOk K (exTb tb) := fun c k b e => by
  unfold exTb at e
  split at e
  · rename_i p hp
    cases e
    have h1 := List.all_eq_true.mp h p (List.mem_of_find?_eq_some hp)
    have h2 := List.find?_some hp
    simp only [Bool.and_eq_true, decide_eq_true_eq] at h1 h2
    rw [← h2.1, ← h2.2]
    exact h1
  · cases e
def ckErrC (c f : Str) (B initId newId : String) (bmB : List Value) : Ck := fun K => (PySem.W.clsIn K (He.ga K c)).isSome && (decide (PySem.W.mroIn K (He.ga K c) (.ref (He.ga K c)) = some true) && (He.eqO (PySem.W.ks_superIn K (He.ga K c) (He.ga K c) "__init__") (some (some (.builtin initId))) &&
  (decide (PySem.W.subIn K (.ref (He.ga K c)) (.type B) = some true) && (He.eqO (PySem.W.nsIn K cStatics "thirdparty.any") (some none) && (PySem.W.excInitIn K (He.ga K c) bmB newId && (He.eqO (PySem.W.findIn K (.ref (He.ga K c)) "__setattr__") (some (some (.builtin "object.__setattr__"))) &&
  (PySem.W.excOver K (He.ga K c) bmB && (He.eqO (PySem.W.takerIn K (He.ga K c) f) (some none) && (PySem.W.hasDictIn K (He.ga K c) && (He.eqO (PySem.W.findIn K (.ref (He.ga K c)) "__init__") (some (some (.ref (He.ma K (He.ga K c) "__init__")))) &&
  (PySem.W.isFn K (.ref (He.ma K (He.ga K c) "__init__")) && (decide (PySem.W.subIn K (.ref (He.ga K c)) (.type "BaseException") = some true) && (PySem.W.isFn K (.ref (He.ma K (He.ga K c) "__init__")) && (PySem.W.typeIn K (.ref (He.ga K c)) == some (.type "type") && PySem.W.keepIn K (.ref (He.ga K c))))))))))))))))
theorem errI_of {P : Program} {K : PySem.W.Frag} {c f : Str} {e : EZ} {B initId newId : String} {bmB : List Value} {ar arp : Arg} {txt : Str} {p0 p1 p2 p3 p4 p5 q0 q1 q2 q3 : Pos} {ck : Nat} {pl : Env → Sem Bool} (base : BaseF B initId newId bmB) (hE : fnE K (e.adr K) = e.val ∧ e.ok K = true) (hC : ckErrC c f B initId newId bmB K = true)
    (ha : e.adr K = He.ma K (He.ga K c) "__init__") (hc : e.cls K = He.ga K c) (hp : e.params = ⟨[], [ar, arp], none, [], [], none, []⟩) (hb : e.body = [.Expr (.Call (.Attribute (.Call (.Name "super" p0) [] [] p1) "__init__" p2) [.Constant (.str txt) ck p3] [] p4) p5, .Assign [.Attribute (.Name ar.arg q0) f q1] (.Name arp.arg q2) q3])
    (lfile : (P.main.file == e.file) = true) (ltop : (P.main.scope.names.lookup ("super" : Str)).isSome = false) (sup : e.scope.names.lookup ("super" : Str) = some .globalImplicit) (scl : e.scope.names.lookup ("__class__" : Str) = some .free) (sar : e.scope.names.lookup ar.arg = some .local) (sap : e.scope.names.lookup arp.arg = some .local)
    (kind : e.scope.kind = .function) (co : e.scope.isCoroutine = false) (gen : e.scope.isGenerator = false) (nocell : ∀ x ∈ e.scope.names, x.2 ≠ .cell)
    (bind : ∀ (kV doc pm ct : Value) (an : Option Addr) (cda cc : Addr) (a b : Value), bindArgs (PySem.W.ksFn "__init__" e.qual e.params e.body e.scope .none kV doc pm an (.ref cda) ct cc) ⟨[a, b], []⟩ = pure [(ar.arg, a), (arp.arg, b)])
    (hev : ∀ env : Env, eval (.Call (.Attribute (.Call (.Name "super" p0) [] [] p1) "__init__" p2) [.Constant (.str txt) ck p3] [] p4) env = (do
      let ov ← attributeBase (.Call (.Name "super" p0) [] [] p1) "__init__" env (eval (.Call (.Name "super" p0) [] [] p1) env)
      standAt p2.atName
      let (f, first) ← holding [ov] (getMethod ov "__init__" (pl env))
      callWith p4 f first (backTo p4 (starEach [.Constant (.str txt) ck p3] env)) []))
    (dist : ar.arg ≠ arp.arg) (nodb : (ar.arg == ("__debug__" : Str)) = false) (nodp : (arp.arg == ("__debug__" : Str)) = false) : Nonempty (ErrI P K (He.ga K c) f) := by
  obtain ⟨cc, cda, kV, doc, pm, ct, an, oc, od, osl, vs, tf, ccl, cdd, ccs, cl, cld, csl, f1, f2, f3, f4, f5⟩ := EZ.facts hE.1 hE.2
  unfold ckErrC at hC
  simp only [Bool.and_eq_true, decide_eq_true_eq] at hC
  obtain ⟨g1, g2, g3, g4, g5, g6, g7, g8, g9, g10, g11, g12, g13, g14, g15, g16⟩ := hC
  obtain ⟨cd, hcd⟩ := Option.isSome_iff_exists.mp g1
  rw [hc] at f5
  rw [ha] at f1
  obtain ⟨adr, cls, qual, params, body, scope, file⟩ := e
  dsimp only at *
  subst hp hb
  exact ⟨{ B := B, initId := initId, newId := newId, bmB := bmB, base := base, fI := _, cc := cc, cda := cda, qual := qual, ar := ar, arp := arp, scope := scope, txt := txt, p0 := p0, p1 := p1, p2 := p2, p3 := p3, p4 := p4, p5 := p5, q0 := q0, q1 := q1, q2 := q2, q3 := q3, ck := ck, kV := kV, doc := doc, pm := pm, ct := ct, an := an, oc := oc, od := od, osl := osl, lk := f1, code := f2, cvs := vs, file := file, tf := tf, ccl := ccl, cdd := cdd, ccs := ccs, lcd := f3, lvs := f4, lfile := lfile, ltop := ltop, cl := cl, cld := cld, csl := csl, lcell := f5, cdC := cd, lC := hcd, sup := sup, scl := scl, sar := sar, sap := sap, kind := kind, co := co, gen := gen, nocell := nocell, bind := fun a b => bind _ _ _ _ _ _ _ a b, pl := pl, hev := hev, dist := dist, nodb := nodb, nodp := nodp, mroC := g2, above := He.eqO_ok g3, sub := g4, opq := He.eqO_ok g5, xin := g6, sat := He.eqO_ok g7, over := g8, tak := He.eqO_ok g9, hdC := g10, ini := He.eqO_ok g11, tyI := beq_iff_eq.mp g12, exC := g13, tyC := beq_iff_eq.mp g15, kC := g16 }⟩
end Z
namespace Z
open PySem PySem.Spec PyProof.Rows L2
structure ProgF (P : Program) (file : Str) : Prop where
  file : (P.main.file == file) = true
  top : (P.main.scope.names.lookup ("super" : Str)).isSome = false
section
variable {X : Cx} {e : Expr} {d : DA} {c f : Str} {p pos : Pos} {k : Nat}
theorem sm_errN (Er : Nonempty (ErrI X.prog X.K (He.ga X.K c) f)) (hsup : X.mg "super" = none) (hr : Room (k + 1) X.A) (hm : X.mg c = some (.ref (He.ga X.K c))) (hg : Gl X c) (ha : SA X [e] d) (hdb : (c == ("__debug__" : Str)) = false := by decide)
    (he : starEach (e :: []) X.env = (false, eval e X.env) :: starEach [] X.env := by rfl) : SMk X (.Call (.Name c p) [e] [] pos) (dMk c f d) := Er.elim fun E => sm_err E hsup hr hm hg ha hdb he
theorem se_errN (Er : Nonempty (ErrI X.prog X.K (He.ga X.K c) f)) (hex : X.ex = []) (hsup : X.mg "super" = none) (hr : Room (k + 1) X.A) (hm : X.mg c = some (.ref (He.ga X.K c))) (hg : Gl X c) (ha : SA X [e] d) (hdb : (c == ("__debug__" : Str)) = false := by decide)
    (he : starEach (e :: []) X.env = (false, eval e X.env) :: starEach [] X.env := by rfl) : SE X (.Call (.Name c p) [e] [] pos) (dErrV c f d) := Er.elim fun E => se_errV E hex hsup hr hm hg ha hdb he
end
end Z
namespace Z
open PySem PySem.Spec PyProof.Rows L2
/-! ### methods of texts -/
/-- a list of texts -/
def strsL : List Vl → Option (List Str)
  | [] => some []
  | .str b :: xs => (match strsL xs with
    | some bs => some (b :: bs)
    | none => none)
  | _ :: _ => none
theorem strsL_ok {K : PySem.W.Frag} {ρ : Lay} {H : Hp} : ∀ {xs : List Vl} {vs : List V} {bs : List Str}, RVs K ρ H xs vs → strsL xs = some bs → vs = bs.map V.str
  | [], _, _, h, e => by
    cases e
    exact h
  | x :: xs, _, _, ⟨v, r, h1, h2, h3⟩, e => by
    cases x with
    | str b =>
      unfold strsL at e
      split at e
      · rename_i bs hb
        cases e
        rw [h1, strsL_ok h3 hb, show v = V.str b from h2] <;> rfl
      · cases e
    | _ => cases e
theorem rvs_strs {K : PySem.W.Frag} {ρ : Lay} {H : Hp} : ∀ ys : List Str, RVs K ρ H (ys.map Vl.str) (ys.map V.str)
  | [] => rfl
  | y :: ys => ⟨V.str y, _, rfl, rfl, rvs_strs ys⟩
def joinF : FM := fun x xs m => match x, xs with
  | .str a, [y] => (match seqD m y with
    | some ys => (match strsL ys with
      | some bs => if (bs.map (·.length)).sum + bs.length * a.length ≤ 16777216 then some (.str (Txt.join a bs), m) else none
      | none => none)
    | none => none)
  | _, _ => none
section
variable {X : Cx} {pos apos : Pos} {e o : Expr} {d : DA} {de : DE}
theorem smf_join {K : PySem.W.Frag} : SMF K joinF "str" (fun x xs H Q => ∃ a p, ∃ ys : List Str, x = .str a ∧ xs = [.ref p] ∧ (SqL K H p (ys.map V.str) ∨ SqT K H p (ys.map V.str)) ∧
    (ys.map (·.length)).sum + ys.length * a.length ≤ 16777216 ∧ Q (.str (Txt.join a ys)) H) := fun ρ m H x xs v vs z m' Q M a b e k => by
  unfold joinF at e
  split at e
  · rename_i t y
    split at e
    · rename_i ys hy
      split at e
      · rename_i bs hb
        split at e
        · rename_i hz
          cases e
          obtain ⟨w, s, rfl, h1, h2⟩ := b
          subst h2
          obtain ⟨q, ws, rfl, h3, h4⟩ := seqD_ok M h1 hy
          rw [strsL_ok h4 hb] at h3
          exact ⟨t, q, bs, by rw [show v = V.str t from a], rfl, h3, hz, k ρ H _ M .refl rfl⟩
        · cases e
      · cases e
    · cases e
  · cases e
theorem se_join (ho : SE X o de) (ha : SA X [e] d)
    (hbase : attributeBase o "join" X.env (eval o X.env) = eval o X.env := by rfl)
    (hfew : ((backTo pos (starEach [e] X.env)).all (fun x => !x.1) && (backToKw pos (keywordEach [] X.env)).all (fun x => x.1.isSome)
      && decide ([e].length + ([] : List Keyword).length + (if ([] : List Keyword).isEmpty then 0 else 1) < 30)) = true := by rfl)
    (hline : (apos.endLine == pos.line) = true := by rfl) (hs : starEach [e] X.env = (false, eval e X.env) :: starEach [] X.env := by rfl) (hplain : (backTo pos (starEach [] X.env)).any (·.1) = false := by rfl) :
    SE X (.Call (.Attribute o "join" apos) [e] [] pos) (dM "str" joinF de d) := se_bm PySem.F.plainAttrs_str PySem.F.slot_str_join PySem.F.type_str_join mt_join smf_join ho ha hbase hfew hline hs hplain
/-- of a text alone -/
def txtF (c : Str → Bool) (g : Str → Vl) : FM := fun x xs m => match x, xs with
  | .str a, [] => if c a = true then some (g a, m) else none
  | _, _ => none
theorem smf_txt {K : PySem.W.Frag} {c : Str → Bool} {C : Str → Prop} {g : Str → Vl} {h : Str → V} (hc : ∀ a, c a = true → C a) (hg : ∀ a ρ H, RV K ρ H (g a) (h a)) : SMF K (txtF c g) "str" (fun x xs H Q => ∃ a, x = .str a ∧ xs = [] ∧ C a ∧ Q (h a) H) := fun ρ m H x xs v vs z m' Q M a b e k => by
  unfold txtF at e
  split at e
  · rename_i t
    split at e
    · rename_i q
      cases e
      exact ⟨t, by rw [show v = V.str t from a], b, hc t q, k ρ H _ M .refl (hg t ρ H)⟩
    · cases e
  · cases e
def upperF : FM := txtF (fun a => decide (a.length ≤ 5592405)) (fun a => .str (Txt.upper a))
theorem se_upper (ho : SE X o de) (hbase : attributeBase o "upper" X.env (eval o X.env) = eval o X.env := by rfl) (hline : (apos.endLine == pos.line) = true := by rfl) :
    SE X (.Call (.Attribute o "upper" apos) [] [] pos) (dM "str" upperF de dNone) := se_bm0 PySem.F.plainAttrs_str PySem.F.slot_str_upper PySem.F.type_str_upper mt_upper (smf_txt (fun _ h => of_decide_eq_true h) fun _ _ _ => rfl) ho hbase hline
def lstripF : FM := txtF (fun a => decide (a.length ≤ sizeLine)) (fun a => .str (Txt.lstrip a))
theorem se_lstrip (ho : SE X o de) (hbase : attributeBase o "lstrip" X.env (eval o X.env) = eval o X.env := by rfl) (hline : (apos.endLine == pos.line) = true := by rfl) :
    SE X (.Call (.Attribute o "lstrip" apos) [] [] pos) (dM "str" lstripF de dNone) := se_bm0 PySem.F.plainAttrs_str PySem.F.slot_str_lstrip PySem.F.type_str_lstrip mt_lstrip (smf_txt (fun _ h => of_decide_eq_true h) fun _ _ _ => rfl) ho hbase hline
/-- x.insert(i, y) -/
def insH (ys xs : List Vl) : Option (Vl × List Vl) := match xs with
  | [.int i, y] => if (decide (ys.length < sizeLine) && (decide (0 ≤ i) && decide (i < 2 ^ 63))) = true then some (.non, ys.take i.toNat ++ [y] ++ ys.drop i.toNat) else none
  | _ => none
theorem smf_ins {K : PySem.W.Frag} : SMF K (lstM insH) "list" (fun x vs H Q => ∃ (l : Addr) (xs : List V) (i : Int) (y : V), x = .ref l ∧ vs = [.int i, y] ∧ H l = some (.lst xs) ∧ xs.length < sizeLine ∧ 0 ≤ i ∧ i < 2 ^ 63 ∧
    Q .non (upd H l (.lst (xs.take i.toNat ++ [y] ++ xs.drop i.toNat)))) := smf_lst fun ρ H a ys xs zs us vs z Q h1 h2 b e k => by
  unfold insH at e
  split at e
  · rename_i i y
    split at e
    · rename_i c
      cases e
      rw [Bool.and_eq_true, Bool.and_eq_true, decide_eq_true_eq, decide_eq_true_eq, decide_eq_true_eq] at c
      obtain ⟨v, s, rfl, r1, w, s2, rfl, r2, r3⟩ := b
      subst r3
      exact ⟨a, us, i, w, rfl, by rw [show v = V.int i from r1], h1, by rw [← h2.length]; exact c.1, c.2.1, c.2.2, k _ _ rfl (((h2.take i.toNat).append (show RVs K ρ H [y] [w] from ⟨w, [], rfl, r2, rfl⟩)).append (h2.drop i.toNat))⟩
    · cases e
  · cases e
theorem se_insert {e2 : Expr} (ho : SE X o de) (ha : SA X [e, e2] d)
    (hbase : attributeBase o "insert" X.env (eval o X.env) = eval o X.env := by rfl)
    (hfew : ((backTo pos (starEach [e, e2] X.env)).all (fun x => !x.1) && (backToKw pos (keywordEach [] X.env)).all (fun x => x.1.isSome)
      && decide ([e, e2].length + ([] : List Keyword).length + (if ([] : List Keyword).isEmpty then 0 else 1) < 30)) = true := by rfl)
    (hline : (apos.endLine == pos.line) = true := by rfl) (hs : starEach [e, e2] X.env = (false, eval e X.env) :: starEach [e2] X.env := by rfl) (hplain : (backTo pos (starEach [e2] X.env)).any (·.1) = false := by rfl) :
    SE X (.Call (.Attribute o "insert" apos) [e, e2] [] pos) (dM "list" (lstM insH) de d) := se_bm PySem.F.plainAttrs_list PySem.F.slot_list_insert PySem.F.type_list_insert mt_insert smf_ins ho ha hbase hfew hline hs hplain
/-! x.split(sep): a new list -/
def splitH (x : Vl) (xs : List Vl) : Option (List Vl) := match x, xs with
  | .str a, [.str b] => if (!(b.length == 0) && decide (a.length + 2 ≤ sizeLine)) = true then some ((Txt.split a b).map Vl.str) else none
  | _, _ => none
def dSplit (de : DE) (d : DA) : DA := fun env m => bindR (de env m) fun x m => if tyM "str" m x = true then bindR (d env m) fun xs m => (match splitH x xs with
  | some ys => some (.ok ys, m)
  | none => none) else none
theorem sl_split (ho : SE X o de) (ha : SA X [e] d)
    (hbase : attributeBase o "split" X.env (eval o X.env) = eval o X.env := by rfl)
    (hfew : ((backTo pos (starEach [e] X.env)).all (fun x => !x.1) && (backToKw pos (keywordEach [] X.env)).all (fun x => x.1.isSome)
      && decide ([e].length + ([] : List Keyword).length + (if ([] : List Keyword).isEmpty then 0 else 1) < 30)) = true := by rfl)
    (hline : (apos.endLine == pos.line) = true := by rfl) (hs : starEach [e] X.env = (false, eval e X.env) :: starEach [] X.env := by rfl) (hplain : (backTo pos (starEach [] X.env)).any (·.1) = false := by rfl) :
    SL X (.Call (.Attribute o "split" apos) [e] [] pos) (dSplit de d) := ⟨fun W tk =>
  impPE (pe_bm PySem.F.plainAttrs_str PySem.F.slot_str_split PySem.F.type_str_split mt_split (ho.run W tk) (ha.run W tk) hbase hfew hline hs hplain) fun σ H Q ⟨ρ, env, m, z, m', s, e, p⟩ => by
    unfold dSplit bindR at e
    split at e
    · cases e
    · rename_i x m1 h0
      refine goE s h0 fun ρ1 H1 v s1 E1 r1 => ?_
      dsimp only at e
      split at e
      · rename_i ht
        refine ⟨tyM_ok s1.mem r1 ht, ?_⟩
        split at e
        · cases e
        · rename_i xs m2 h2
          refine goA s1 h2 fun ρ2 H2 vs s2 E2 r2 => ?_
          split at e
          · rename_i ys hy
            cases e
            unfold splitH at hy
            split at hy
            · rename_i a b
              split at hy
              · rename_i c
                cases hy
                rw [Bool.and_eq_true, decide_eq_true_eq] at c
                obtain ⟨w, t, rfl, q1, q2⟩ := r2
                subst q2
                have hl : (Txt.split a b).length ≤ sizeLine := Nat.le_trans (PyProof.Rows.split_le a b) c.2
                exact ⟨a, b, by rw [show v = V.str a from r1], by rw [show w = V.str b from q1], by simpa using c.1, c.2, fun l hl' => p ρ2 _ (s2.mem.laid hl') ((E1.trans E2).trans (ext_new hl')) _ ⟨l, _, rfl, ⟨s2.mem.fresh hl', s2.mem.freshz hl', (E1.trans E2).none hl'⟩, upd_same, by rw [List.length_map]; exact hl, rvs_strs _⟩⟩
              · cases hy
            · cases hy
          · cases e
        · rename_i c fs m2 h2
          cases e
          exact exA s1 h2 fun ρ' H' dd s' E r => p ρ' H' s'.mem (E1.trans E) dd r
      · cases e
    · rename_i c fs m1 h0
      cases e
      exact exE s h0 fun ρ' H' dd s' E r => p ρ' H' s'.mem E dd r⟩
end
end Z
namespace Z
open PySem PySem.Spec PyProof.Rows L2
/-! ### classmethods, and a class in a local name -/
/-- the def of a classmethod -/
def cmA (K : PySem.W.Frag) (c m : Str) : Addr := match PySem.W.recIn K (He.ma K (He.ga K c) m) "classmethod" with
  | some (.ref g :: _) => g
  | _ => 0
structure CMd (K : PySem.W.Frag) (c m : Str) : Prop where
  rd : ClX.CRead K (He.ga K c) (.type "type")
  cm : ClX.CMet K (He.ga K c) (.type "type") m (He.ma K (He.ga K c) m) (cmA K c m)
def isCmF (r : Option PySem.W.CFound) (p C : Addr) : Bool := match r with
  | some (.get (.builtin b) (.ref p') .none (.ref C')) => decide (b = "classmethod.__get__") && (decide (p' = p) && decide (C' = C))
  | _ => false
theorem isCmF_ok {r : Option PySem.W.CFound} {p C : Addr} (h : isCmF r p C = true) : r = some (.get (.builtin "classmethod.__get__") (.ref p) .none (.ref C)) := by
  unfold isCmF at h
  split at h
  · simp only [Bool.and_eq_true, decide_eq_true_eq] at h
    rw [h.1, h.2.1, h.2.2]
  · cases h
def ckCM (c m : Str) : Ck := fun K => PySem.W.readsIn K (He.ga K c) (.type "type") && (He.eqO (PySem.W.specialIn K (.ref (He.ga K c)) "__getattribute__") (some (some (.builtin "type.__getattribute__"))) &&
  (isCmF (PySem.W.findCls K (.ref (He.ga K c)) (.type "type") m) (He.ma K (He.ga K c) m) (He.ga K c) && ((match PySem.W.recIn K (He.ma K (He.ga K c) m) "classmethod" with
    | some (.ref _ :: _) => true
    | _ => false) && PySem.W.fnIn K (cmA K c m))))
theorem ckCM_ok {K : PySem.W.Frag} {c m : Str} (h : ckCM c m K = true) : CMd K c m := by
  unfold ckCM at h
  simp only [Bool.and_eq_true] at h
  obtain ⟨h1, h2, h3, h4, h5⟩ := h
  refine ⟨⟨h1, He.eqO_ok h2⟩, isCmF_ok h3, ?_, h5⟩
  split at h4
  · rename_i g rest q
    refine ⟨rest, ?_⟩
    unfold cmA
    rw [q]
  · cases h4
section
variable {X : Cx} {o e : Expr} {es : List Expr} {c mn : Str} {pos apos p : Pos} {de : DE} {d : DA} {k n : Nat} {f : Addr} {ks : List Str} {gz : List Vl → List Vl → List Vl} {g : FD} {W : WX}
theorem Fz.code (F : Fz X.prog X.w X.K X.mg X.base k f n ks gz g) (hr : Room k X.A) (tk : Takes X W) {pins : List (Addr × Obj)} {σ : L2.St} {H : Hp} {s : Shared} {Q : VK} {us ws : List Value} {vs zs : List V} {ρ : Lay} {m m' : Mem} {xs ys : List Vl} {r : R Vl}
    (I : Inv X pins σ H s) (a : Vals vs us) (b : Vals zs ws) (M : RM X.K ρ m H) (ra : RVs X.K ρ H xs vs) (rb : RVs X.K ρ H ys zs) (hn : xs.length = n) (hk : ys.length = ks.length) (e : g (gz xs ys) m = some (r, m'))
    (p : Po X.K ρ H (RV X.K) (fun c dd H' => W c dd σ H') Q r m') : codeAny (model X.prog X.w) X.A (.call (.ref f) ⟨us, ks.zip ws⟩) (fun r s' => match r with | .ok (.ret v) => EP X pins σ Q v s' | .ok _ => False | .error e => X.xe e s') s := by
  obtain ⟨fd, ps, gs, gV, h1, h2, h3⟩ := F.ex
  have q := h3 ρ H xs vs ys zs hn hk ra rb
  have kb := h2.to s us ws I.kIn (by rw [← a.length, ← ra.length]; exact hn) (by rw [← b.length, ← rb.length]; exact hk)
  refine codeAny_mono (h1.run X.A X.stack s H ⟨us, ks.zip ws⟩ (gs us ws) (gV vs zs) Q (fun c dd H' => W c dd σ H') hr I.env0 kb (h2.rel a b) ⟨q.1, ρ, m, _, r, m', M, q.2, e, p⟩) fun r s' hq => ?_
  rcases r with er | fl
  · exact tk er s' (XE.of_call I (fun _ _ _ z => z) hq)
  · cases fl <;> first | exact I.after hq | exact hq.elim
def dCMeth (c : Str) (n : Nat) (gz : List Vl → List Vl → List Vl) (g : FD) (de : DE) (d : DA) : DE := fun env m => bindR (de env m) fun x m => match x with
  | .glo c' => if c' = c then bindR (d env m) fun xs m => if xs.length = n then g (gz (.glo c :: xs) []) m else none else none
  | _ => none
theorem se_cmeth {pl : Sem Bool} (he : SE X o de) (h : CMd X.K c mn) (F : Fz X.prog X.w X.K X.mg X.base k (cmA X.K c mn) (n + 1) [] gz g) (hr : Room k X.A) (ha : SA X (e :: es) d)
    (hst : starEach (e :: es) X.env = (false, eval e X.env) :: starEach es X.env := by rfl) (hpl : (backTo pos (starEach es X.env)).any (·.1) = false := by rfl)
    (ht : eval (.Call (.Attribute o mn apos) (e :: es) [] pos) X.env = (do
      let ov ← eval o X.env
      standAt apos.atName
      let (f, first) ← holding [ov] (getMethod ov mn pl)
      callWith pos f first (backTo pos (starEach (e :: es) X.env)) (backToKw pos (keywordEach [] X.env))) := by rfl) :
    SE X (.Call (.Attribute o mn apos) (e :: es) [] pos) (dCMeth c n gz g de d) := ⟨fun W tk => ⟨fun pins s σ H Q I h0 => by
  obtain ⟨ρ, env, m, z, m', st, ee, pp⟩ := h0
  have h' : rdE X.K W de σ H (fun v H1 => v = .ref (He.ga X.K c) ∧ rdA X.K W d σ H1 fun vs H2 => ∃ ρ1 m1 xs, RM X.K ρ1 m1 H2 ∧ RVs X.K ρ1 H2 xs (.ref (He.ga X.K c) :: vs) ∧ xs.length = n + 1 ∧ g (gz xs []) m1 = some (z, m') ∧ Po X.K ρ1 H2 (RV X.K) (fun c dd H' => W c dd σ H') Q z m') :=
    bindE st ee pp fun x m1 ρ1 H1 v s1 E1 r1 e1 p1 => by
      split at e1
      · rename_i c'
        split at e1
        · rename_i hc
          subst hc
          refine ⟨r1, bindA s1 e1 p1 fun xs m2 ρ2 H2 vs s2 E2 r2 e2 p2 => ?_⟩
          split at e2
          · rename_i hn
            exact ⟨ρ2, m2, .glo c' :: xs, s2.mem, ⟨_, _, rfl, rfl, r2⟩, by rw [List.length_cons, hn], e2, p2⟩
          · cases e2
        · cases e1
      · cases e1
  refine PySem.W.methodCall_KW (pl := pl) (thn ((he.run W tk).run pins s σ H _ I h') fun u s1 ⟨x, H1, I1, rx, ex, q⟩ => ?_) ht
  subst ex
  obtain rfl : u = Value.ref (He.ga X.K c) := rx
  refine ClX.getmethcm_ok I1 h.rd h.cm fun s2 I2 => ?_
  refine ClX.callwith_cm I2 (ClX.base_none I1 (Nat.le_refl _)) h.cm.fi (thn ((ha.run W tk).run pos _ s2 σ H1 _ I2 q) fun us s3 ⟨vs, H2, I3, rv, ρ1, m1, xs, M1, rx, hn, e1, p1⟩ => ⟨⟨ClX.pin_at I3, I3.kIn⟩, ?_⟩) hst hpl
  refine thn (wpAny_call (PySem.W.method_call (kw := []) (ClX.pin_at I3) (F.code hr tk (us := .ref (He.ga X.K c) :: us) (vs := .ref (He.ga X.K c) :: vs) (ws := []) I3 (.cons rfl rv) .nil M1 rx (show RVs X.K ρ1 H2 [] [] from rfl) hn rfl e1 p1))) fun _ _ y => ClX.unpinE y⟩⟩
theorem se_cmeth0 {pl : Sem Bool} (he : SE X o de) (h : CMd X.K c mn) (F : Fz X.prog X.w X.K X.mg X.base k (cmA X.K c mn) 1 [] gz g) (hr : Room k X.A)
    (ht : eval (.Call (.Attribute o mn apos) [] [] pos) X.env = (do
      let ov ← eval o X.env
      standAt apos.atName
      let (f, first) ← holding [ov] (getMethod ov mn pl)
      callWith pos f first (backTo pos (starEach [] X.env)) (backToKw pos (keywordEach [] X.env))) := by rfl) :
    SE X (.Call (.Attribute o mn apos) [] [] pos) (dCMeth c 0 gz g de dNone) := ⟨fun W tk => ⟨fun pins s σ H Q I h0 => by
  obtain ⟨ρ, env, m, z, m', st, ee, pp⟩ := h0
  have h' : rdE X.K W de σ H (fun v H1 => v = .ref (He.ga X.K c) ∧ ∃ ρ1 m1 xs, RM X.K ρ1 m1 H1 ∧ RVs X.K ρ1 H1 xs [.ref (He.ga X.K c)] ∧ xs.length = 1 ∧ g (gz xs []) m1 = some (z, m') ∧ Po X.K ρ1 H1 (RV X.K) (fun c dd H' => W c dd σ H') Q z m') :=
    bindE st ee pp fun x m1 ρ1 H1 v s1 E1 r1 e1 p1 => by
      split at e1
      · rename_i c'
        split at e1
        · rename_i hc
          subst hc
          unfold dNone bindR at e1
          simp only [List.length_nil, if_true] at e1
          exact ⟨r1, ρ1, m1, [.glo c'], s1.mem, ⟨_, _, rfl, rfl, rfl⟩, rfl, e1, p1⟩
        · cases e1
      · cases e1
  refine PySem.W.methodCall_KW (pl := pl) (thn ((he.run W tk).run pins s σ H _ I h') fun u s1 ⟨x, H1, I1, rx, ex, ρ1, m1, xs, M1, rx1, hn, e1, p1⟩ => ?_) ht
  subst ex
  obtain rfl : u = Value.ref (He.ga X.K c) := rx
  refine ClX.getmethcm_ok I1 h.rd h.cm fun s2 I2 => ?_
  refine PySem.W.callWith_M0 (K := X.K) ⟨ClX.pin_at I2, I2.kIn⟩ h.cm.fi ?_
  refine thn (wpAny_call (PySem.W.method_call (kw := []) (ClX.pin_at I2) (F.code hr tk (us := [.ref (He.ga X.K c)]) (vs := [.ref (He.ga X.K c)]) (ws := []) I2 (.cons rfl .nil) .nil M1 rx1 (show RVs X.K ρ1 H1 [] [] from rfl) hn rfl e1 p1))) fun _ _ y => ClX.unpinE y⟩⟩
/-- cls(..), cls a local name that holds the class c -/
def dCallL (i : Nat) (c : Str) (n : Nat) (gd : List Vl → List Vl → Mem → Option (R Vl × Mem)) (d : DA) : DE := fun env m => match env[i]? with
  | some (some (.glo c')) => if c' = c then dCall n 0 gd d dNone env m else none
  | _ => none
theorem se_callL {i : Nat} {x : Str} {gd : List Vl → List Vl → Mem → Option (R Vl × Mem)} (R : Z.Runs X (He.ga X.K c) n [] gd) (hk : PySem.W.keepIn X.K (.ref (He.ga X.K c)) = true) (hN : X.N[i]? = some x) (hv : Vis X.env.scope x) (ha : SA X (e :: es) d)
    (hdb : (x == ("__debug__" : Str)) = false := by decide) (hcd : (x == ("__classdict__" : Str)) = false := by decide)
    (he : starEach (e :: es) X.env = (false, eval e X.env) :: starEach es X.env := by rfl) (hpl : (backTo pos (starEach es X.env)).any (·.1) = false := by rfl) : SE X (.Call (.Name x p) (e :: es) [] pos) (dCallL i c n gd d) := ⟨fun W tk => ⟨fun pins s σ H Q I h => by
  obtain ⟨ρ, env, m, z, m', st, ee, pp⟩ := h
  unfold dCallL at ee
  split at ee
  · rename_i c' hv'
    split at ee
    · rename_i hc
      subst hc
      obtain ⟨u0, hs, hr0⟩ := st.env.2 _ _ hv'
      obtain rfl : u0 = V.ref (He.ga X.K c') := hr0
      have h' : rdA X.K W d σ H (fun vs H1 => ∃ ρ1 m1 xs, RM X.K ρ1 m1 H1 ∧ RVs X.K ρ1 H1 xs vs ∧ xs.length = n ∧ gd xs [] m1 = some (z, m') ∧ Po X.K ρ1 H1 (RV X.K) (fun c dd H' => W c dd σ H') Q z m') :=
        bindA st ee pp fun xs m1 ρ1 H1 vs s1 E1 r1 e1 p1 => by
          unfold dNone bindR at e1
          simp only at e1
          split at e1
          · rename_i hn
            exact ⟨ρ1, m1, xs, s1.mem, r1, hn.1, e1, p1⟩
          · cases e1
      refine wpAny_Call_Name_kw (thn ((pe_var (pos := p) hN hv hdb hcd).run pins s σ H (fun v H1 => v = .ref (He.ga X.K c') ∧ H1 = H) I ⟨_, hs, rfl, rfl⟩) fun u s1 ⟨v, H1, I1, r1, q1⟩ => ?_)
      obtain ⟨rfl, rfl⟩ := q1
      obtain rfl : u = Value.ref (He.ga X.K c') := r1
      refine PySem.W.callWith_K (h₀ := X.base) I.ok.mod.kin hk (thn ((ha.run W tk).run pos pins s1 σ _ _ I1 h') fun us s2 ⟨vs, H2, I2, r, q⟩ => ⟨I2.kIn, ?_⟩) he hpl
      obtain ⟨ρ1, m1, xs, M1, rx, hn, e1, p1⟩ := q
      exact R tk (ws := []) I2 r .nil M1 rx (show RVs X.K ρ1 H2 [] [] from rfl) hn rfl e1 p1
    · cases ee
  · cases ee⟩⟩
end
end Z
namespace Z
open PySem PySem.Spec PyProof.Rows L2
/-! ### what the readings of texts, of try and of errors compute -/
section
variable {env : Ev} {m m' : Mem} {c f : Str} {fs : List (Str × Vl)} {da db de du : DE} {d : DA} {i : Nat} {x v : Vl} {ex : ExT} {hs : List Hz} {ds : DS} {cs : List Str} {kt : Kit}
@[simp] theorem dM_ap {T : String} {g : FM} : dM T g de d env m = bindR (de env m) fun x m => if tyM T m x = true then bindR (d env m) fun xs m => okR (g x xs m) else none := rfl
@[simp] theorem tyM_str {z : Str} : tyM "str" m (.str z) = true := by
  show decide ("str" = "str") = true
  decide
@[simp] theorem tyM_lst {xs : List Vl} : tyM "list" m (.lst xs) = true := by
  show decide ("list" = "list") = true
  decide
theorem tyM_obj {xs : List Vl} (h : m[i]? = some (.lst xs)) : tyM "list" m (.obj i) = true := by
  unfold tyM
  simp only [h]
  decide
@[simp] theorem dSplit_ap : dSplit de d env m = bindR (de env m) fun x m => if tyM "str" m x = true then bindR (d env m) fun xs m => (match splitH x xs with
  | some ys => some (.ok ys, m)
  | none => none) else none := rfl
theorem splitH_str {a b : Str} (h : (b.length == 0) = false) (h2 : a.length + 2 ≤ sizeLine) : splitH (.str a) [.str b] = some ((Txt.split a b).map Vl.str) := by
  unfold splitH
  simp only [h, h2, decide_true, Bool.not_false, Bool.and_self, if_true]
@[simp] theorem strsL_map : ∀ l : List Str, strsL (l.map Vl.str) = some l
  | [] => rfl
  | x :: l => by
    show (match strsL (l.map Vl.str) with
      | some bs => some (x :: bs)
      | none => none) = _
    rw [strsL_map l]
theorem joinF_strs {a : Str} {l : List Str} {y : Vl} (hy : seqD m y = some (l.map Vl.str)) (h : (l.map (·.length)).sum + l.length * a.length ≤ 16777216) : joinF (.str a) [y] m = some (.str (Txt.join a l), m) := by
  unfold joinF
  simp only [hy, strsL_map, h, if_true]
/-! membership -/
@[simp] theorem flatLs_strs : ∀ l : List Str, flatLs (l.map Vl.str) = some (l.map V.str)
  | [] => rfl
  | x :: l => by
    show (match flatLs (l.map Vl.str) with
      | some vs => some (V.str x :: vs)
      | none => none) = _
    rw [flatLs_strs l]
    rfl
theorem inV_strs {a : Str} : ∀ l : List Str, inV (.str a) (l.map V.str) = l.contains a
  | [] => rfl
  | x :: l => by
    have ih := inV_strs (a := a) l
    unfold inV at ih ⊢
    rw [List.map_cons, List.any_cons, ih, List.contains_cons]
    have : eqV (.str x) (.str a) = (a == x) := by
      show decide (x = a) = (a == x)
      by_cases h : x = a
      · subst h
        simp
      · have h' : (a == x) = false := by
          rw [Bool.eq_false_iff]
          exact fun e => h (eq_of_beq e).symm
        rw [h', decide_eq_false h]
    rw [this]
theorem inA_strs {neg : Bool} {a : Str} {l : List Str} : inA neg (.str a) (.tup (l.map .str)) m = some (.bl (if neg then !l.contains a else l.contains a), m) := by
  unfold inA orF inS seqD
  simp only [flatLs_strs, inV_strs, flatL]
/-! try, raise -/
def tryK (ex : ExT) (hs : List Hz) : Option (Fl × Mem) → Option (Fl × Mem)
  | some (.ex c fs env1, m1) => hdZ ex hs c fs env1 m1
  | r => r
@[simp] theorem dTry_ap : dTry ex ds hs env m = tryK ex hs (ds env m) := rfl
@[simp] theorem tryK_ex : tryK ex hs (some (.ex c fs env, m)) = hdZ ex hs c fs env m := rfl
@[simp] theorem tryK_nx : tryK ex hs (some (.nx env, m)) = some (.nx env, m) := rfl
@[simp] theorem tryK_rt : tryK ex hs (some (.rt v, m)) = some (.rt v, m) := rfl
@[simp] theorem hdZ_nil : hdZ ex [] c fs env m = some (.ex c fs env, m) := rfl
theorem hdZ_no {k : Str} {nm : Option Nat} (h : ex c k = some false) : hdZ ex ((k, nm, ds) :: hs) c fs env m = hdZ ex hs c fs env m := by
  show (match ex c k with
    | none => none
    | some false => hdZ ex hs c fs env m
    | some true => _) = _
  rw [h]
theorem hdZ_as {k : Str} (h : ex c k = some true) : hdZ ex ((k, some i, ds) :: hs) c fs env m = unname i (ds (env.set i (some (.err c fs))) m) := by
  show (match ex c k with
    | none => none
    | some false => _
    | some true => unname i (ds (env.set i (some (.err c fs))) m)) = _
  rw [h]
@[simp] theorem unname_rt : unname i (some (.rt v, m)) = some (.rt v, m) := rfl
@[simp] theorem unname_nx : unname i (some (.nx env, m)) = some (.nx (env.set i none), m) := rfl
def raiseK (env : Ev) : Option (R (Str × List (Str × Vl)) × Mem) → Option (Fl × Mem)
  | some (.ok q, m') => some (.ex q.1 q.2 env, m')
  | some (.ex c fs, m') => some (.ex c fs env, m')
  | none => none
@[simp] theorem dRaise_ap {dm : DM} : dRaise dm env m = raiseK env (dm env m) := rfl
@[simp] theorem raiseK_ok {q : Str × List (Str × Vl)} : raiseK env (some (.ok q, m)) = some (.ex q.1 q.2 env, m) := rfl
@[simp] theorem dMk_ap : dMk c f d env m = bindR (d env m) fun xs m => match xs with
  | [x] => some (.ok (c, [(f, x)]), m)
  | _ => none := rfl
@[simp] theorem dXf_ap : dXf cs f de env m = bindR (de env m) fun x m => match x with
  | .err c fs => if cs.contains c = true then (match fs.lookup f with
    | some v => some (.ok v, m)
    | none => none) else none
  | _ => none := rfl
@[simp] theorem dIsE_ap : dIsE cs kt de du env m = bindR (de env m) fun x m => bindR (du env m) fun u m => match x, clsD u with
  | .err c _, some t => if cs.contains c = true then (match kt (.c c) t with
    | some b => some (.ok (.bl b), m)
    | none => none) else none
  | _, _ => none := rfl
@[simp] theorem addA_str {a b : Str} (h : a.length + b.length ≤ sizeLine) : addA (.str a) (.str b) m = some (.str (a ++ b), m) := by
  unfold addA orF addI addS intF
  simp only [h, if_true]
end
end Z
namespace Z
open PySem PySem.Spec PyProof.Rows L2
/-! ### zip of lists that may be cells -/
def zW (w1 w2 : Wk) : Wk := fun i m => match w1 i m, w2 i m with
  | some (some x), some (some y) => some (some (.tup [x, y]))
  | some none, some _ => some none
  | some (some _), some none => some none
  | _, _ => none
/-- what a walk tells of the list at a -/
def RdW (K : PySem.W.Frag) (a : Addr) (ρ0 : Lay) (H0 : Hp) (w : Wk) : Prop := ∀ (i : Nat) (ρ : Lay) (m : Mem) (H : Hp), Ext ρ0 H0 ρ H → RM K ρ m H → ∀ o, w i m = some o → ∃ vs, SqL K H a vs ∧ match o with
  | some x => ∃ v, vs[i]? = some v ∧ RV K ρ H x v
  | none => vs.length ≤ i
section
variable {K : PySem.W.Frag} {ρ0 : Lay} {H0 : Hp} {xs ys : List Vl} {vs us : List V} {a b : Addr}
theorem rdW_stat (h : ∀ ρ H, Ext ρ0 H0 ρ H → SqL K H a vs) (r : RVs K ρ0 H0 xs vs) : RdW K a ρ0 H0 (statW xs) := fun i ρ m H E M o ho => by
  refine ⟨vs, h ρ H E, ?_⟩
  have ho' : xs[i]? = o := Option.some.inj ho
  cases o with
  | some x =>
    obtain ⟨v, h1, h2⟩ := (r.mono E).get ho'
    exact ⟨v, h1, h2⟩
  | none =>
    rw [← r.length]
    exact List.getElem?_eq_none_iff.mp ho'
theorem rdW_cell {n : Nat} (ha : ρ0.c[n]? = some a) : RdW K a ρ0 H0 (cellW n) := fun i ρ m H E M o ho => by
  have ha' : ρ.c[n]? = some a := by
    obtain ⟨t, ht⟩ := E.pre
    rw [← ht, List.getElem?_append_left (List.getElem?_eq_some_iff.mp ha).1]
    exact ha
  unfold cellW at ho
  split at ho
  · rename_i zs hm
    obtain ⟨vs, h1, h2⟩ := M.at_ _ _ _ hm ha'
    refine ⟨vs, SqL.of h1, ?_⟩
    have ho' : zs[i]? = o := Option.some.inj ho
    cases o with
    | some x =>
      obtain ⟨v, h3, h4⟩ := h2.get ho'
      exact ⟨v, h3, h4⟩
    | none =>
      rw [← h2.length]
      exact List.getElem?_eq_none_iff.mp ho'
  · cases ho
theorem wkOf_ok {ρ : Lay} {m : Mem} {H : Hp} {x : Vl} {v : V} {w : Wk × Nat} (M : RM K ρ m H) (r : RV K ρ H x v) (h : wkOf m x = some w) : ∃ p vs, v = .ref p ∧ SqL K H p vs ∧ RdW K p ρ H w.1 := by
  unfold wkOf at h
  split at h
  · rename_i n
    split at h
    · rename_i zs hz
      cases h
      obtain ⟨q, rfl, hq⟩ := r
      obtain ⟨vs, h1, h2⟩ := M.at_ _ _ _ hz hq
      exact ⟨q, vs, rfl, SqL.of h1, rdW_cell hq⟩
    · cases h
  · split at h
    · rename_i zs hz
      cases h
      obtain ⟨q, vs, rfl, h1, h2⟩ := staD_ok r hz
      exact ⟨q, vs, rfl, h1 ρ H .refl, rdW_stat h1 h2⟩
    · cases h
theorem itW_zip {w1 w2 : Wk} (h1 : RdW K a ρ0 H0 w1) (h2 : RdW K b ρ0 H0 w2) : ItW K (Itz K a b) ρ0 H0 (zW w1 w2) := fun i ρ m H E M => by
  unfold zW
  refine ⟨fun x hx => ?_, fun hx => ?_⟩
  · split at hx
    · rename_i y z e1 e2
      cases hx
      obtain ⟨vs, s1, v, g1, r1⟩ := h1 i ρ m H E M _ e1
      obtain ⟨us, s2, u, g2, r2⟩ := h2 i ρ m H E M _ e2
      refine ⟨⟨vs, us, v, u, s1, s2, g1, g2⟩, fun w H' q => ?_⟩
      obtain ⟨T, v', u', rfl, hT, rfl, q5, q6⟩ := q
      have e3 := q5 vs s1
      have e4 := q6 us s2
      rw [g1] at e3
      rw [g2] at e4
      cases e3
      cases e4
      exact ⟨M.laid hT, ext_new hT, new_tup M hT ⟨_, _, rfl, r1, _, _, rfl, r2, rfl⟩⟩
    · cases hx
    · cases hx
    · cases hx
  · split at hx
    · cases hx
    · rename_i o e1 e2
      obtain ⟨vs, s1, g1⟩ := h1 i ρ m H E M _ e1
      obtain ⟨us, s2, _⟩ := h2 i ρ m H E M _ e2
      exact ⟨vs, us, s1, s2, .inl g1⟩
    · rename_i y e1 e2
      obtain ⟨vs, s1, _⟩ := h1 i ρ m H E M _ e1
      obtain ⟨us, s2, g2⟩ := h2 i ρ m H E M _ e2
      exact ⟨vs, us, s1, s2, .inr g2⟩
    · cases hx
theorem rdW_A {W : WX} {d : DA} {f : List Vl → Mem → Option (R (Wk × Nat) × Mem)} {σ : L2.St} {H : Hp} {R : It → Hp → Prop} {Q : List V → Hp → Prop} (h : rdW K W (fun env m => bindR (d env m) f) σ H R)
    (k : ∀ x m1 ρ env w v H1, S K ρ env m1 σ H1 → RVs K ρ H1 x v → f x m1 = some (.ok w, m1) → (∀ J, ItW K J ρ H1 w.1 → R J H1) → Q v H1) (hf : ∀ x m r m', f x m = some (r, m') → (∃ w, r = .ok w) ∧ m' = m) : rdA K W d σ H Q := by
  obtain ⟨ρ, env, m, r, m', s, e, p⟩ := h
  have e' : bindR (d env m) f = some (r, m') := e
  unfold bindR at e'
  split at e'
  · cases e'
  · rename_i x m1 h0
    obtain ⟨⟨w, rfl⟩, rfl⟩ := hf x m1 r m' e'
    exact goA s h0 fun ρ' H' v s' E rv => k x _ ρ' env w v H' s' rv e' fun J hJ => p ρ' H' s'.mem E J hJ
  · rename_i c fs m1 h0
    cases e'
    exact exA s h0 fun ρ' H' dd s' E r => p ρ' H' s'.mem E dd r
end
def wZp (d : DA) : DW := fun env m => bindR (d env m) fun xs m => match xs with
  | [x, y] => (match wkOf m x, wkOf m y with
    | some w1, some w2 => some (.ok (zW w1.1 w2.1, min w1.2 w2.2), m)
    | _, _ => none)
  | _ => none
section
variable {X : Cx} {e : Expr} {pos p tpos : Pos} {d : DA}
theorem siw_zip {e2 : Expr} {elts : List Expr} {kk : Nat} (hg : Gl X "zip") (hm : X.mg "zip" = none) (ha : SA X [e, e2] d)
    (hs : starEach [e, e2] X.env = (false, eval e X.env) :: starEach [e2] X.env := by rfl) (hpl : (backTo pos (starEach [e2] X.env)).any (·.1) = false := by rfl) :
    SIW X (.Tuple elts kk tpos) (.Call (.Name "zip" p) [e, e2] [] pos) (wZp d) := ⟨fun W tk => impPI (pi_zip hg hm (ha.run W tk) hs hpl) fun σ H R h =>
  rdW_A (Q := fun vs H1 => ∃ a b xs ys, vs = [.ref a, .ref b] ∧ SqL X.K H1 a xs ∧ SqL X.K H1 b ys ∧ R (Itz X.K a b) H1) h (fun x m1 ρ env xs v H1 s r e k => by
    split at e
    · rename_i y z
      split at e
      · rename_i w1 w2 h1 h2
        cases e
        obtain ⟨w, vs, rfl, r1, w2, vs2, rfl, r2, r3⟩ := r
        subst r3
        obtain ⟨q, vs, rfl, h3, h4⟩ := wkOf_ok s.mem r1 h1
        obtain ⟨q2, vs2, rfl, h5, h6⟩ := wkOf_ok s.mem r2 h2
        exact ⟨q, q2, vs, vs2, rfl, h3, h5, k _ (itW_zip h4 h6)⟩
      · cases e
    · cases e) fun x m r m' e => by
    split at e
    · split at e
      · cases e
        exact ⟨⟨_, rfl⟩, rfl⟩
      · cases e
    · cases e⟩
end
@[simp] theorem wZp_ap {d : DA} {env : Ev} {m : Mem} : wZp d env m = bindR (d env m) fun xs m => match xs with
  | [x, y] => (match wkOf m x, wkOf m y with
    | some w1, some w2 => some (.ok (zW w1.1 w2.1, min w1.2 w2.2), m)
    | _, _ => none)
  | _ => none := rfl
end Z
namespace Z
open PySem PySem.Spec PyProof.Rows L2
/-! ### staticmethods, ~x of an own class -/
/-- the def of a staticmethod -/
def smA (K : PySem.W.Frag) (c m : Str) : Addr := match PySem.W.recIn K (He.ma K (He.ga K c) m) "staticmethod" with
  | some (.ref g :: _) => g
  | _ => 0
structure SMd (K : PySem.W.Frag) (c m : Str) : Prop where
  rd : ClX.CRead K (He.ga K c) (.type "type")
  at_ : PySem.W.findCls K (.ref (He.ga K c)) (.type "type") m = some (.get (.builtin "staticmethod.__get__") (.ref (He.ma K (He.ga K c) m)) .none (.ref (He.ga K c)))
  rc : ∃ rest, PySem.W.recIn K (He.ma K (He.ga K c) m) "staticmethod" = some (.ref (smA K c m) :: rest)
  kp : PySem.W.keepIn K (.ref (smA K c m)) = true
def isSmF (r : Option PySem.W.CFound) (p C : Addr) : Bool := match r with
  | some (.get (.builtin b) (.ref p') .none (.ref C')) => decide (b = "staticmethod.__get__") && (decide (p' = p) && decide (C' = C))
  | _ => false
theorem isSmF_ok {r : Option PySem.W.CFound} {p C : Addr} (h : isSmF r p C = true) : r = some (.get (.builtin "staticmethod.__get__") (.ref p) .none (.ref C)) := by
  unfold isSmF at h
  split at h
  · simp only [Bool.and_eq_true, decide_eq_true_eq] at h
    rw [h.1, h.2.1, h.2.2]
  · cases h
def ckSM (c m : Str) : Ck := fun K => PySem.W.readsIn K (He.ga K c) (.type "type") && (He.eqO (PySem.W.specialIn K (.ref (He.ga K c)) "__getattribute__") (some (some (.builtin "type.__getattribute__"))) &&
  (isSmF (PySem.W.findCls K (.ref (He.ga K c)) (.type "type") m) (He.ma K (He.ga K c) m) (He.ga K c) && ((match PySem.W.recIn K (He.ma K (He.ga K c) m) "staticmethod" with
    | some (.ref _ :: _) => true
    | _ => false) && PySem.W.keepIn K (.ref (smA K c m)))))
theorem ckSM_ok {K : PySem.W.Frag} {c m : Str} (h : ckSM c m K = true) : SMd K c m := by
  unfold ckSM at h
  simp only [Bool.and_eq_true] at h
  obtain ⟨h1, h2, h3, h4, h5⟩ := h
  refine ⟨⟨h1, He.eqO_ok h2⟩, isSmF_ok h3, ?_, h5⟩
  split at h4
  · rename_i g rest q
    refine ⟨rest, ?_⟩
    unfold smA
    rw [q]
  · cases h4
section
variable {X : Cx} {o e : Expr} {es : List Expr} {c mn : Str} {pos apos p : Pos} {de : DE} {d dk : DA} {k n : Nat} {f : Addr} {ks : List Str} {kws : List Keyword} {gz : List Vl → List Vl → List Vl} {g : FD} {W : WX} {pins : List (Addr × Obj)} {σ : L2.St} {H : Hp} {s : Shared}
theorem getsm_ok {pl : Sem Bool} {A : Around} {E : Value → Shared → Prop} {Q : Value × List Value → Shared → Prop} (I : Inv X pins σ H s) (h : SMd X.K c mn) (hQ : ∀ s', Inv X pins σ H s' → Q (.ref (smA X.K c mn), []) s') : wpAny (model X.prog X.w) A (getMethod (.ref (He.ga X.K c)) mn pl) Q E s := by
  obtain ⟨rest, hp⟩ := h.rc
  refine PySem.W.method_cls I.kIn h.rd.ga (PySem.W.cls_bind I.kIn h.rd.rd h.at_ ?_)
  refine wpAny_call (PySem.W.sm_get (s := { s with toks := s.toks + 1 }) I.kIn hp (PySem.W.handed_on rfl ?_))
  exact hQ _ (I.tok _)
def dSMeth (c : Str) (n j : Nat) (gz : List Vl → List Vl → List Vl) (g : FD) (de : DE) (d dk : DA) : DE := fun env m => bindR (de env m) fun x m => match x with
  | .glo c' => if c' = c then bindR (d env m) fun xs m => bindR (dk env m) fun ys m => if xs.length = n ∧ ys.length = j then g (gz xs ys) m else none else none
  | _ => none
theorem se_smeth {pl : Sem Bool} (he : SE X o de) (h : SMd X.K c mn) (F : Fz X.prog X.w X.K X.mg X.base k (smA X.K c mn) n [] gz g) (hr : Room k X.A) (ha : SA X (e :: es) d)
    (hst : starEach (e :: es) X.env = (false, eval e X.env) :: starEach es X.env := by rfl) (hpl : (backTo pos (starEach es X.env)).any (·.1) = false := by rfl)
    (ht : eval (.Call (.Attribute o mn apos) (e :: es) [] pos) X.env = (do
      let ov ← eval o X.env
      standAt apos.atName
      let (f, first) ← holding [ov] (getMethod ov mn pl)
      callWith pos f first (backTo pos (starEach (e :: es) X.env)) (backToKw pos (keywordEach [] X.env))) := by rfl) :
    SE X (.Call (.Attribute o mn apos) (e :: es) [] pos) (dSMeth c n 0 gz g de d dNone) := ⟨fun W tk => ⟨fun pins s σ H Q I h0 => by
  obtain ⟨ρ, env, m, z, m', st, ee, pp⟩ := h0
  have h' : rdE X.K W de σ H (fun v H1 => v = .ref (He.ga X.K c) ∧ rdA X.K W d σ H1 fun vs H2 => ∃ ρ1 m1 xs, RM X.K ρ1 m1 H2 ∧ RVs X.K ρ1 H2 xs vs ∧ xs.length = n ∧ g (gz xs []) m1 = some (z, m') ∧ Po X.K ρ1 H2 (RV X.K) (fun c dd H' => W c dd σ H') Q z m') :=
    bindE st ee pp fun x m1 ρ1 H1 v s1 E1 r1 e1 p1 => by
      split at e1
      · rename_i c'
        split at e1
        · rename_i hc
          subst hc
          refine ⟨r1, bindA s1 e1 p1 fun xs m2 ρ2 H2 vs s2 E2 r2 e2 p2 => ?_⟩
          unfold dNone bindR at e2
          simp only at e2
          split at e2
          · rename_i hn
            exact ⟨ρ2, m2, xs, s2.mem, r2, hn.1, e2, p2⟩
          · cases e2
        · cases e1
      · cases e1
  refine PySem.W.methodCall_KW (pl := pl) (thn ((he.run W tk).run pins s σ H _ I h') fun u s1 ⟨x, H1, I1, rx, ex, q⟩ => ?_) ht
  subst ex
  obtain rfl : u = Value.ref (He.ga X.K c) := rx
  refine getsm_ok I1 h fun s2 I2 => ?_
  refine PySem.W.callWith_K (first := []) (h₀ := X.base) I.ok.mod.kin h.kp (thn ((ha.run W tk).run pos pins s2 σ H1 _ I2 q) fun us s3 ⟨vs, H2, I3, r, ρ1, m1, xs, M1, rx, hn, e1, p1⟩ => ⟨I3.kIn, ?_⟩) hst hpl
  exact F.run hr tk (us := us) (vs := vs) (ws := []) I3 r .nil M1 rx (show RVs X.K ρ1 H2 [] [] from rfl) hn rfl e1 p1⟩⟩
theorem se_smeth0 {pl : Sem Bool} (he : SE X o de) (h : SMd X.K c mn) (F : Fz X.prog X.w X.K X.mg X.base k (smA X.K c mn) 0 [] gz g) (hr : Room k X.A)
    (ht : eval (.Call (.Attribute o mn apos) [] [] pos) X.env = (do
      let ov ← eval o X.env
      standAt apos.atName
      let (f, first) ← holding [ov] (getMethod ov mn pl)
      callWith pos f first (backTo pos (starEach [] X.env)) (backToKw pos (keywordEach [] X.env))) := by rfl) :
    SE X (.Call (.Attribute o mn apos) [] [] pos) (dSMeth c 0 0 gz g de dNone dNone) := ⟨fun W tk => ⟨fun pins s σ H Q I h0 => by
  obtain ⟨ρ, env, m, z, m', st, ee, pp⟩ := h0
  have h' : rdE X.K W de σ H (fun v H1 => v = .ref (He.ga X.K c) ∧ ∃ ρ1 m1, RM X.K ρ1 m1 H1 ∧ g (gz [] []) m1 = some (z, m') ∧ Po X.K ρ1 H1 (RV X.K) (fun c dd H' => W c dd σ H') Q z m') :=
    bindE st ee pp fun x m1 ρ1 H1 v s1 E1 r1 e1 p1 => by
      split at e1
      · rename_i c'
        split at e1
        · rename_i hc
          subst hc
          unfold dNone bindR at e1
          simp only [List.length_nil, and_self, if_true] at e1
          exact ⟨r1, ρ1, m1, s1.mem, e1, p1⟩
        · cases e1
      · cases e1
  refine PySem.W.methodCall_KW (pl := pl) (thn ((he.run W tk).run pins s σ H _ I h') fun u s1 ⟨x, H1, I1, rx, ex, ρ1, m1, M1, e1, p1⟩ => ?_) ht
  subst ex
  obtain rfl : u = Value.ref (He.ga X.K c) := rx
  refine getsm_ok I1 h fun s2 I2 => ?_
  exact PySem.W.callWith_K0 (first := []) I2.kIn h.kp (F.run hr tk (us := []) (vs := []) (ws := []) I2 .nil .nil M1 (show RVs X.K ρ1 H1 [] [] from rfl) (show RVs X.K ρ1 H1 [] [] from rfl) rfl rfl e1 p1)⟩⟩
/-- ~x by an own __invert__ -/
theorem own_inv {M : Model} {A : Around} {E : Value → Shared → Prop} {Q : Value → Shared → Prop} {K : PySem.W.Frag} {x C : Addr} {ox : Obj} {od : Option Obj} (hK : K.In s.heap) (J : PySem.W.InstAt s.heap x ox C od) (hs : PySem.W.findIn K (.ref C) "__invert__" = some (some (.ref f))) (hf : PySem.W.isFn K (.ref f) = true)
    (h : wpAny M A (call (.ref f) [.ref x]) Q E s) : wpAny M A (unaryOp .Invert (.ref x)) Q E s := by
  unfold unaryOp
  refine wpAny_holding (wpAny_bind (PySem.W.special_fn hK J hs (beq_iff_eq.mp hf) (wpAny_mono h (fun v s' z => ?_) fun _ _ z => z)))
  exact wpAny_pure z
def dInv (c : Str) (gz : List Vl → List Vl → List Vl) (g : FD) (de : DE) : DE := fun env m => bindR (de env m) fun x m => match insD m x with
  | some (c', _) => if c' = c then g (gz [x] []) m else none
  | none => none
theorem se_inv {ts : List TD} (he : SE X e de) (O : OwnM X.K c "__invert__" f ts) (F : Fz X.prog X.w X.K X.mg X.base k f 1 [] gz g) (hr : Room k X.A) : SE X (.UnaryOp .Invert e pos) (dInv c gz g de) := ⟨fun W tk => ⟨fun pins s σ H Q I h0 => by
  obtain ⟨ρ, env, m, z, m', st, ee, pp⟩ := h0
  have h' : rdE X.K W de σ H (fun v H1 => ∃ a dx gs, v = .ref a ∧ H1 a = some (.ins (He.ga X.K c) dx gs) ∧ ∃ ρ1 m1 xs, RM X.K ρ1 m1 H1 ∧ RVs X.K ρ1 H1 xs [.ref a] ∧ xs.length = 1 ∧ g (gz xs []) m1 = some (z, m') ∧ Po X.K ρ1 H1 (RV X.K) (fun c dd H' => W c dd σ H') Q z m') :=
    bindE st ee pp fun x m1 ρ1 H1 v s1 E1 r1 e1 p1 => by
      split at e1
      · rename_i c' fs hi
        split at e1
        · rename_i hc
          subst hc
          obtain ⟨a, dx, gs, rfl, h1, h2⟩ := insD_ok s1.mem r1 hi
          exact ⟨a, dx, gs, rfl, h1, ρ1, m1, [x], s1.mem, ⟨_, _, rfl, r1, rfl⟩, rfl, e1, p1⟩
        · cases e1
      · cases e1
  refine UnaryOp_ (thn ((he.run W tk).run pins s σ H _ I h') fun u s1 ⟨x, H1, I1, rx, a, dx, gs, ex, ea, ρ1, m1, xs, M1, rx1, hn, e1, p1⟩ => ?_)
  subst ex
  obtain rfl : u = Value.ref a := rx
  obtain ⟨mA, Ob, _⟩ := ins_get I1.hok ea
  obtain ⟨od, J, _⟩ := Ob.look
  exact own_inv I1.kIn J O.at_ O.fn (F.run hr tk (us := [.ref a]) (vs := [.ref a]) (ws := []) I1 (.cons rfl .nil) .nil M1 rx1 (show RVs X.K ρ1 H1 [] [] from rfl) hn rfl e1 p1)⟩⟩
end
@[simp] theorem dSMeth_ap {c : Str} {n j : Nat} {gz : List Vl → List Vl → List Vl} {g : FD} {de : DE} {d dk : DA} {env : Ev} {m : Mem} : dSMeth c n j gz g de d dk env m = bindR (de env m) fun x m => match x with
  | .glo c' => if c' = c then bindR (d env m) fun xs m => bindR (dk env m) fun ys m => if xs.length = n ∧ ys.length = j then g (gz xs ys) m else none else none
  | _ => none := rfl
@[simp] theorem dInv_ap {c : Str} {gz : List Vl → List Vl → List Vl} {g : FD} {de : DE} {env : Ev} {m : Mem} : dInv c gz g de env m = bindR (de env m) fun x m => match insD m x with
  | some (c', _) => if c' = c then g (gz [x] []) m else none
  | none => none := rfl
end Z
namespace Z
open PySem PySem.Spec PyProof.Rows L2
/-! ### a text n times, str of an int, tests of chains -/
def mulSC (z : Str) (i : Int) : Bool := decide (0 ≤ i) && (decide (i ≤ 1000) && decide (z.length ≤ 1000))
theorem mulOk_of {z : Str} {i : Int} (h : mulSC z i = true) : MulOk z i := by
  unfold mulSC at h
  rw [Bool.and_eq_true, Bool.and_eq_true, decide_eq_true_eq, decide_eq_true_eq, decide_eq_true_eq] at h
  obtain ⟨h0, h1, h2⟩ := h
  refine ⟨?_, fun hn _ => ?_, fun hn _ => ?_⟩
  · rw [decide_eq_false (by omega), decide_eq_false (by omega)]
    rfl
  · have hp : 0 < i := by omega
    have : (1000 : Int) ≤ (2 ^ 63 - 1) / i := (Int.le_ediv_iff_mul_le hp).mpr (by omega)
    omega
  · have hm : z.length * i.toNat ≤ 1000 * 1000 := Nat.mul_le_mul h2 (by omega)
    unfold Builtin.Str.tooLong
    exact decide_eq_false (Nat.not_lt.mpr (Nat.le_trans hm (by decide)))
def mulS : F2 := fun x y m => match x, y with
  | .str z, .int i => if mulSC z i = true then some (.str (Txt.mul z i), m) else none
  | _, _ => none
section
variable {X : Cx} {a b c e : Expr} {es : List Expr} {pos p : Pos} {da db dc : DE} {d : DA}
theorem op_mulS : OpR X (binaryOp .Mult) (fun x y H Q => ∃ z i, x = .str z ∧ y = .int i ∧ MulOk z i ∧ Q (.str (Txt.mul z i)) H) := by
  intro pins s σ H x y v u Q I rx ry h
  obtain ⟨z, i, rfl, rfl, ok, q⟩ := h
  obtain ⟨t, rfl⟩ := rx
  obtain ⟨t', rfl⟩ := ry
  exact PySem.SB.mul ok fun t2 k => ⟨.str _, H, I.tok k, ⟨t2, rfl⟩, q⟩
theorem sf_mulS {K : PySem.W.Frag} : SF2 K mulS (fun x y H Q => ∃ z i, x = .str z ∧ y = .int i ∧ MulOk z i ∧ Q (.str (Txt.mul z i)) H) := fun ρ m H x y v u z m' Q M a b e k => by
  unfold mulS at e
  split at e
  · rename_i w i
    split at e
    · rename_i hc
      cases e
      exact ⟨w, i, a, b, mulOk_of hc, k ρ H _ M .refl rfl⟩
    · cases e
  · cases e
theorem se_mulS (ha : SE X a da) (hb : SE X b db) : SE X (.BinOp a .Mult b pos) (d2 mulS da db) := se_2 op_mulS sf_mulS ha hb
theorem mulS_str {z : Str} {i : Int} {m : Mem} (h : mulSC z i = true) : mulS (.str z) (.int i) m = some (.str (Txt.mul z i), m) := by
  unfold mulS
  simp only [h, if_true]
def strIF : FB := fun xs m => match xs with
  | [.int i] => if i.natAbs.log2 < 1920 then some (.str (toString i), m) else none
  | _ => none
theorem scf_strI {K : PySem.W.Frag} : SCF K strIF (fun xs H Q => ∃ i, xs = [.int i] ∧ i.natAbs.log2 < 1920 ∧ Q (.str (toString i)) H) := fun ρ m H xs vs z m' Q M a e k => by
  unfold strIF at e
  split at e
  · rename_i i
    split at e
    · rename_i hc
      cases e
      obtain ⟨v, s, rfl, h1, h2⟩ := a
      subst h2
      exact ⟨i, by rw [show v = V.int i from h1], hc, k ρ H _ M .refl rfl⟩
    · cases e
  · cases e
theorem se_strI (hg : Gl X "str") (hm : X.mg "str" = none) (ha : SA X (e :: es) d) (he : starEach (e :: es) X.env = (false, eval e X.env) :: starEach es X.env := by rfl) (hpl : (backTo pos (starEach es X.env)).any (·.1) = false := by rfl) :
    SE X (.Call (.Name "str" p) (e :: es) [] pos) (dB strIF d) := se_callTy call_str_int scf_strI hg hm (by decide +kernel) ha (by decide) (by decide) he hpl
def tChn (f g : F2) (da db dc : DE) : DT := fun env m => bindR (da env m) fun x m => bindR (db env m) fun y m => match f x y m with
  | some (.bl true, m) => bindR (dc env m) fun z m => (match g y z m with
    | some (.bl k, m) => some (.ok k, m)
    | _ => none)
  | some (.bl false, m) => some (.ok false, m)
  | _ => none
theorem st_chain {op op' : CmpOp} {f g : F2} {r r' : R2} (ho : OpR X (compareOp op) r) (ho' : OpR X (compareOp op') r') (hf : SF2 X.K f r) (hg : SF2 X.K g r') (ha : SE X a da) (hb : SE X b db) (hc : SE X c dc)
    (hm : lastMarks [op, op'] [b, c] = false := by with_unfolding_all rfl) : ST X (.Compare a [op, op'] [b, c] pos) (tChn f g da db dc) := ⟨fun W tk =>
  impPT (pt_chain ho ho' (ha.run W tk) (hb.run W tk) (hc.run W tk) hm) fun σ H Q ⟨ρ, env, m, z, m', s, e, p⟩ =>
    bindE s e p fun x m1 ρ1 H1 v s1 E1 r1 e1 p1 => bindE s1 e1 p1 fun y m2 ρ2 H2 u s2 E2 r2 e2 p2 => by
      split at e2
      · rename_i m3 h1
        refine hf ρ2 m2 H2 x y v u _ m3 _ s2.mem (r1.mono E2) r2 h1 fun ρ' H' u' M E r => ⟨true, r, ?_⟩
        rw [if_pos rfl]
        exact bindE (s2.to E M) e2 (p2.mono E) fun z m4 ρ4 H4 v4 s4 E4 r4 e4 p4 => by
          split at e4
          · rename_i k m5 h5
            cases e4
            exact hg ρ4 m4 H4 y z u v4 _ m' _ s4.mem (r2.mono (E.trans E4)) r4 h5 fun ρ' H' u' M E r => ⟨k, r, p4 ρ' H' M E k rfl⟩
          · cases e4
      · rename_i m3 h1
        cases e2
        refine hf ρ2 m2 H2 x y v u _ _ _ s2.mem (r1.mono E2) r2 h1 fun ρ' H' u' M E r => ⟨false, r, ?_⟩
        rw [if_neg (by decide)]
        exact ⟨false, rfl, p2 ρ' H' M E false rfl⟩
      · cases e2⟩
theorem se_ch2 {op op' : CmpOp} {f g : F2} {r r' : R2} (ho : OpR X (compareOp op) r) (ho' : OpR X (compareOp op') r') (hf : SF2 X.K f r) (hg : SF2 X.K g r') (ha : SE X a da) (hb : SE X b db) (hc : SE X c dc)
    (hm : lastMarks [op, op'] [b, c] = false := by with_unfolding_all rfl) : SE X (.Compare a [op, op'] [b, c] pos) (dChain f g da db dc) := se_chain ho ho' hf hg ha hb hc hm
end
@[simp] theorem tChn_ap {f g : F2} {da db dc : DE} {env : Ev} {m : Mem} : tChn f g da db dc env m = bindR (da env m) fun x m => bindR (db env m) fun y m => match f x y m with
  | some (.bl true, m) => bindR (dc env m) fun z m => (match g y z m with
    | some (.bl k, m) => some (.ok k, m)
    | _ => none)
  | some (.bl false, m) => some (.ok false, m)
  | _ => none := rfl
@[simp] theorem dChain_ap {f g : F2} {da db dc : DE} {env : Ev} {m : Mem} : dChain f g da db dc env m = bindR (da env m) fun x m => bindR (db env m) fun y m => match f x y m with
  | some (.bl true, m) => bindR (dc env m) fun z m => okR (g y z m)
  | some (.bl false, m) => some (.ok (.bl false), m)
  | _ => none := rfl
end Z
namespace Z
open PySem PySem.Spec PyProof.Rows L2
/-! ### x & y, x | y, .. of two instances of one own class -/
structure BinC (K : PySem.W.Frag) (c : Str) (op : Operator) (f : Addr) : Prop where
  sf : PySem.W.selfFirst K (He.ga K c) = true
  at_ : PySem.W.findIn K (.ref (He.ga K c)) (PySem.dunder op.info.2) = some (some (.ref f))
  fn : PySem.W.isFn K (.ref f) = true
def ckBin (c mn : Str) (op : Operator) : Ck := fun K => PySem.W.selfFirst K (He.ga K c) && (decide (PySem.dunder op.info.2 = mn) && (He.eqO (PySem.W.findIn K (.ref (He.ga K c)) mn) (some (some (.ref (He.ma K (He.ga K c) mn)))) && PySem.W.isFn K (.ref (He.ma K (He.ga K c) mn))))
theorem ckBin_ok {K : PySem.W.Frag} {c mn : Str} {op : Operator} (h : ckBin c mn op K = true) : BinC K c op (He.ma K (He.ga K c) mn) := by
  unfold ckBin at h
  rw [Bool.and_eq_true, Bool.and_eq_true, Bool.and_eq_true, decide_eq_true_eq] at h
  obtain ⟨h1, h2, h3, h4⟩ := h
  exact ⟨h1, by rw [h2]; exact He.eqO_ok h3, h4⟩
section
variable {X : Cx} {a b : Expr} {c : Str} {pos : Pos} {da db : DE} {k : Nat} {f : Addr} {gz : List Vl → List Vl → List Vl} {g : FD} {op : Operator}
def dBinC (c : Str) (gz : List Vl → List Vl → List Vl) (g : FD) (da db : DE) : DE := fun env m => bindR (da env m) fun x m => bindR (db env m) fun y m => match insD m x, insD m y with
  | some (c1, _), some (c2, _) => if (decide (c1 = c) && decide (c2 = c)) = true then g (gz [x, y] []) m else none
  | _, _ => none
theorem cmpBack_of {pins : List (Addr × Obj)} {σ : L2.St} {Q : VK} {w : Value} {s' : Shared} (h : EP X pins σ Q w s') : PySem.W.CmpBack (EP X pins σ Q) w s' := by
  cases w with
  | notImplemented =>
    obtain ⟨v, H', _, rv, _⟩ := h
    cases v <;> first | (obtain ⟨_, hh⟩ := rv; cases hh) | cases rv
  | _ => exact h
theorem se_binC (B : BinC X.K c op f) (F : Fz X.prog X.w X.K X.mg X.base k f 2 [] gz g) (hr : Room k X.A) (ha : SE X a da) (hb : SE X b db) : SE X (.BinOp a op b pos) (dBinC c gz g da db) := ⟨fun W tk => ⟨fun pins s σ H Q I h => by
  obtain ⟨ρ, env, m, z, m', st, ee, pp⟩ := h
  refine wpAny_BinOp ?_
  have h' : rdE X.K W da σ H (fun v H1 => rdE X.K W db σ H1 fun u H2 => ∃ q dx gs q2 dx2 gs2 ρ' m1 xs, v = .ref q ∧ u = .ref q2 ∧ H2 q = some (.ins (He.ga X.K c) dx gs) ∧ H2 q2 = some (.ins (He.ga X.K c) dx2 gs2) ∧ RM X.K ρ' m1 H2 ∧ RVs X.K ρ' H2 xs [.ref q, .ref q2] ∧ xs.length = 2 ∧ g (gz xs []) m1 = some (z, m') ∧ Po X.K ρ' H2 (RV X.K) (fun c dd H' => W c dd σ H') Q z m') :=
    bindE st ee pp fun x m1 ρ1 H1 v s1 E1 r1 e1 p1 => bindE s1 e1 p1 fun y m2 ρ2 H2 u s2 E2 r2 e2 p2 => by
      split at e2
      · rename_i c1 fs c2 fs2 hi hj
        split at e2
        · rename_i hc
          rw [Bool.and_eq_true, decide_eq_true_eq, decide_eq_true_eq] at hc
          obtain ⟨rfl, rfl⟩ := hc
          obtain ⟨q, dx, gs, rfl, h3, h4⟩ := insD_ok s2.mem (r1.mono E2) hi
          obtain ⟨q2, dx2, gs2, rfl, h5, h6⟩ := insD_ok s2.mem r2 hj
          exact ⟨q, dx, gs, q2, dx2, gs2, ρ2, m2, [x, y], rfl, rfl, h3, h5, s2.mem, ⟨_, _, rfl, r1.mono E2, _, _, rfl, r2, rfl⟩, rfl, e2, p2⟩
        · cases e2
      · cases e2
  refine thn ((ha.run W tk).run pins s σ H _ I h') fun v s1 ⟨x, H1, I1, rx, q1⟩ => ?_
  refine thn ((hb.run W tk).run pins s1 σ H1 _ I1 q1) fun u s2 ⟨y, H2, I2, ry, q, dx, gs, q2, dx2, gs2, ρ2, m2, xs, ex, ey, hq, hq2, M2, rxs, hn, eg, p2⟩ => ?_
  subst ex ey
  obtain rfl : v = Value.ref q := rx
  obtain rfl : u = Value.ref q2 := ry
  obtain ⟨mA, Oa, _⟩ := ins_get I2.hok hq
  obtain ⟨od, J, _⟩ := Oa.look
  obtain ⟨mB, Ob, _⟩ := ins_get I2.hok hq2
  obtain ⟨od2, J2, _⟩ := Ob.look
  obtain ⟨m0, hF⟩ := I2.fr
  refine PySem.W.binop_K hF I2.ok.mod.kin J J2.type B.sf B.at_ B.fn ?_
  exact thn (F.run hr tk (us := [.ref q, .ref q2]) (vs := [.ref q, .ref q2]) (ws := []) I2 (.cons rfl (.cons rfl .nil)) .nil M2 rxs (show RVs X.K ρ2 H2 [] [] from rfl) hn rfl eg p2) fun w s' z => cmpBack_of z⟩⟩
end
/-- a reading that is nowhere some promises nothing -/
theorem fnOk_none {P : Program} {w : World} {K : PySem.W.Frag} {mg : Str → Option Value} {base : Heap} {CX : CXT} {k n : Nat} {f : Addr} {fd : FuncData} {ps : List Str} : Z.FnOk P w K mg base CX k f fd ps (spZ K n (fun _ _ => none)) := by
  have no : ∀ (vs : List V) (H : Hp) (Q : VK) (E : XK), spZ K n (fun _ _ => none) vs H Q E → False := fun vs H Q E h => by
    obtain ⟨_, _, _, _, _, _, _, _, e, _⟩ := h
    cases e
  exact ⟨fun vs H Q E h => (no vs H Q E h).elim, fun A outer s H args us vs Q E _ _ _ _ h => (no vs H Q E h).elim⟩
/-! a, b, c = x, y, z -/
def dPar3 (i j l : Nat) (d : DA) : DS := fun env m => bindS (d env m) env fun xs m => match xs with
  | [x, y, z] => some (.nx (((env.set i (some x)).set j (some y)).set l (some z)), m)
  | _ => none
theorem ss_par3 {X : Cx} {da : DA} {pos : Pos} {i j l : Nat} {x y z : Str} {a b c : Expr} {px py pz pt : Pos} {kt k2 : Nat} {pt2 : Pos} (hc : X.calm = true) (hN : X.N.Nodup) (hi : X.N[i]? = some x) (hj : X.N[j]? = some y) (hl : X.N[l]? = some z) (hij : i ≠ j) (hil : i ≠ l) (hjl : j ≠ l)
    (hx : X.env.scope.names.lookup x = some .local) (hy : X.env.scope.names.lookup y = some .local) (hz : X.env.scope.names.lookup z = some .local) (ha : SA X [a, b, c] da)
    (hw : swappedStores [.Tuple [.Name x px, .Name y py, .Name z pz] kt pt] (.Tuple [a, b, c] k2 pt2) X.env = pure (some [x, y, z]))
    (hs : swapsWithSole [.Tuple [.Name x px, .Name y py, .Name z pz] kt pt] (.Tuple [a, b, c] k2 pt2) pos.line X.env = pure false := by rfl) :
    SS X (.Assign [.Tuple [.Name x px, .Name y py, .Name z pz] kt pt] (.Tuple [a, b, c] k2 pt2) pos) (dPar3 i j l da) := ⟨fun W tk =>
  impPS (ps_par3 hc hN hi hj hl hij hil hjl hx hy hz (ha.run W tk) hw hs) fun D σ H ⟨ρ, env, m, f, m', s, e, p⟩ => sbA s e p fun xs m1 ρ1 H1 vs s1 E1 r1 e1 p1 => by
    split at e1
    · rename_i x y z
      cases e1
      obtain ⟨v, vs, rfl, r2, w, ws, rfl, r3, u, us, rfl, r4, r5⟩ := r1
      subst r5
      exact ⟨v, w, u, rfl, p1 ρ1 H1 s1.mem .refl _ (((s1.env.set r2).set r3).set r4)⟩
    · cases e1⟩
end Z
namespace Z
open PySem PySem.Spec PyProof.Rows L2
/-! ### x & y, x | y, .. of an instance of an own class and of anything whose type is told -/
section
open PySem.W
variable {prog : Program} {w : World} {A : Around} {E : Value → Shared → Prop} {s : Shared} {K : Frag} {x C L f : Addr} {h₀ : Heap} {m : Str → Option Value} {ox : Obj} {od : Option Obj} {T : String}
theorem bin_typed {op : Operator} {b : Value} {fo ro : Option Value} {Q : Value → Shared → Prop} (fr : Fr h₀ L s.heap m) (kin : K.In h₀) (inst : InstAt s.heap x ox C od) (tb : Looks (model prog w) s.heap (typeOf b) (.type T)) (sf : selfFirst K C = true)
    (at_ : findIn K (.ref C) (PySem.dunder op.info.2) = some (some (.ref f))) (fn : isFn K (.ref f) = true) (rn : findIn K (.ref C) (dunderR op.info.2) = some none)
    (e1 : findIn K (.type T) (PySem.dunder op.info.2) = some fo) (e2 : findIn K (.type T) (dunderR op.info.2) = some ro) (ns : subIn K (.type T) (.ref C) = some false)
    (k : wpAny (model prog w) A (call (.ref f) [.ref x, b]) (PySem.W.CmpBack Q) E s) : wpAny (model prog w) A (binaryOp op (.ref x) b) Q E s := by
  have kk := kin.keeps fr.keep
  obtain ⟨cd, r, hcd, hm⟩ := ksp_first sf
  generalize hi : op.info = inf at at_ rn e1 e2
  obtain ⟨sym, nm⟩ := inf
  have one := ksp_try kk inst at_ fn k
  obtain ⟨hh, g, d, tt, os⟩ := s
  have p1 : Looks (model prog w) hh (typeOf (.ref x)) (.ref C) := inst.type
  have p2 : Looks (model prog w) hh (typeOf b) (.type T) := tb
  have p3 : Looks (model prog w) hh (fillsNumberSlot (.ref C) nm) true := fills_K kk hcd hm at_
  have p4 : Looks (model prog w) hh (fillsNumberSlot (.type T) nm) ((fo.isSome && !isSeqSlot fo) || (ro.isSome && !isSeqSlot ro)) := ksp_fillsT kk e1 e2
  have p5 : Looks (model prog w) hh (isSubtype (.type T) (.ref C)) false := looks_subIn kk ns
  have p6 : Looks (model prog w) hh (numberSlotInPython (.ref C) nm) true := ksp_inPy kk at_ rn (.inl rfl)
  have p7 : Looks (model prog w) hh (numberSlotInPython (.type T) nm) false := Looks.of_pure rfl
  have p8 : Looks (model prog w) hh (typeLookup (.type T) (dunderR nm)) ro := looks_findIn kk e2
  generalize ((fo.isSome && !isSeqSlot fo) || (ro.isSome && !isSeqSlot ro)) = z at p4
  have hne : (Value.ref C == Value.type T) = false := by
    rw [Bool.eq_false_iff]
    intro q
    cases beq_iff_eq.mp q
  simp only [binaryOp, hi]
  refine wpAny_holding (wpAny_bind ?_)
  unfold binaryOp1
  refine wpAny_bind (p1.at (wpAny_bind (p2.at (wpAny_bind (p3.at ?_)))))
  simp only [hne, Bool.false_eq_true, if_false]
  cases z <;>
  · ksp_lk
    refine wpAny_mono one (fun r s' hr' => ?_) fun _ _ e => e
    obtain ⟨v, rfl, hq⟩ := hr'
    ksp_lk
    exact hq
end
structure BinM (K : PySem.W.Frag) (c : Str) (op : Operator) (f : Addr) (bs : List String) : Prop where
  b : BinC K c op f
  rn : PySem.W.findIn K (.ref (He.ga K c)) (dunderR op.info.2) = some none
  ty : ∀ T ∈ bs, (∃ fo, PySem.W.findIn K (.type T) (PySem.dunder op.info.2) = some fo) ∧ (∃ ro, PySem.W.findIn K (.type T) (dunderR op.info.2) = some ro) ∧ PySem.W.subIn K (.type T) (.ref (He.ga K c)) = some false
def ckBinM (c mn : Str) (op : Operator) (bs : List String) : Ck := fun K => ckBin c mn op K && (He.eqO (PySem.W.findIn K (.ref (He.ga K c)) (dunderR op.info.2)) (some none) && bs.all fun T => (PySem.W.findIn K (.type T) (PySem.dunder op.info.2)).isSome && ((PySem.W.findIn K (.type T) (dunderR op.info.2)).isSome && (PySem.W.subIn K (.type T) (.ref (He.ga K c)) == some false)))
theorem ckBinM_ok {K : PySem.W.Frag} {c mn : Str} {op : Operator} {bs : List String} (h : ckBinM c mn op bs K = true) : BinM K c op (He.ma K (He.ga K c) mn) bs := by
  unfold ckBinM at h
  rw [Bool.and_eq_true, Bool.and_eq_true] at h
  obtain ⟨h1, h2, h3⟩ := h
  refine ⟨ckBin_ok h1, He.eqO_ok h2, fun T hT => ?_⟩
  have h4 := List.all_eq_true.mp h3 T hT
  rw [Bool.and_eq_true, Bool.and_eq_true] at h4
  obtain ⟨h5, h6, h7⟩ := h4
  exact ⟨Option.isSome_iff_exists.mp h5, Option.isSome_iff_exists.mp h6, beq_iff_eq.mp h7⟩
section
variable {X : Cx} {a b : Expr} {c : Str} {pos : Pos} {da db : DE} {k : Nat} {f : Addr} {gz : List Vl → List Vl → List Vl} {g : FD} {op : Operator} {cs : List Str} {bs : List String}
/-- the types that may stand on the right -/
def binOk (c : Str) (bs : List String) : TD → Bool
  | .c d => decide (d = c)
  | .b T => bs.contains T
def dBinM (c : Str) (cs : List Str) (bs : List String) (gz : List Vl → List Vl → List Vl) (g : FD) (da db : DE) : DE := fun env m => bindR (da env m) fun x m => bindR (db env m) fun y m => match insD m x, tyD m y with
  | some (c1, _), some t => if (decide (c1 = c) && (binOk c bs t && tdOk cs t)) = true then g (gz [x, y] []) m else none
  | _, _ => none
theorem se_binM (B : BinM X.K c op f bs) (hI : InsA X.K cs) (F : Fz X.prog X.w X.K X.mg X.base k f 2 [] gz g) (hr : Room k X.A) (ha : SE X a da) (hb : SE X b db) : SE X (.BinOp a op b pos) (dBinM c cs bs gz g da db) := ⟨fun W tk => ⟨fun pins s σ H Q I h => by
  obtain ⟨ρ, env, m, z, m', st, ee, pp⟩ := h
  refine wpAny_BinOp ?_
  have h' : rdE X.K W da σ H (fun v H1 => rdE X.K W db σ H1 fun u H2 => ∃ q dx gs ρ' m1 xv yv t, v = .ref q ∧ H2 q = some (.ins (He.ga X.K c) dx gs) ∧ RM X.K ρ' m1 H2 ∧ RV X.K ρ' H2 xv v ∧ RV X.K ρ' H2 yv u ∧ tyD m1 yv = some t ∧ binOk c bs t = true ∧ tdOk cs t = true ∧ g (gz [xv, yv] []) m1 = some (z, m') ∧ Po X.K ρ' H2 (RV X.K) (fun c dd H' => W c dd σ H') Q z m') :=
    bindE st ee pp fun x m1 ρ1 H1 v s1 E1 r1 e1 p1 => bindE s1 e1 p1 fun y m2 ρ2 H2 u s2 E2 r2 e2 p2 => by
      split at e2
      · rename_i c1 fs t hi ht
        split at e2
        · rename_i hc
          rw [Bool.and_eq_true, Bool.and_eq_true, decide_eq_true_eq] at hc
          obtain ⟨rfl, hc1, hc2⟩ := hc
          obtain ⟨q, dx, gs, rfl, h3, h4⟩ := insD_ok s2.mem (r1.mono E2) hi
          exact ⟨q, dx, gs, ρ2, m2, x, y, t, rfl, h3, s2.mem, r1.mono E2, r2, ht, hc1, hc2, e2, p2⟩
        · cases e2
      · cases e2
  refine thn ((ha.run W tk).run pins s σ H _ I h') fun v s1 ⟨x, H1, I1, rx, q1⟩ => ?_
  refine thn ((hb.run W tk).run pins s1 σ H1 _ I1 q1) fun u s2 ⟨y, H2, I2, ry, q, dx, gs, ρ2, m2, xv, yv, t, ex, hq, M2, rxv, ryv, ht, hts, htc, eg, p2⟩ => ?_
  subst ex
  obtain rfl : v = Value.ref q := rx
  obtain ⟨mA, Oa, _⟩ := ins_get I2.hok hq
  obtain ⟨od, J, _⟩ := Oa.look
  obtain ⟨m0, hF⟩ := I2.fr
  obtain ⟨P, kx, hP, _⟩ := kit_of I2 ry (tyD_ok hI M2 ryv ht htc)
  have hl := kx.ty (model X.prog X.w) s2.heap I2.kIn hP
  have fin := thn (F.run hr tk (us := [.ref q, u]) (vs := [.ref q, y]) (ws := []) I2 (.cons rfl (.cons ry .nil)) .nil M2 (show RVs X.K ρ2 H2 [xv, yv] [.ref q, y] from ⟨_, _, rfl, rxv, _, _, rfl, ryv, rfl⟩) (show RVs X.K ρ2 H2 [] [] from rfl) rfl rfl eg p2) fun w s' z => cmpBack_of z
  cases t with
  | c d =>
    obtain rfl : d = c := of_decide_eq_true hts
    exact PySem.W.binop_K hF I2.ok.mod.kin J hl B.b.sf B.b.at_ B.b.fn fin
  | b T =>
    have hT : T ∈ bs := List.contains_iff_mem.mp hts
    obtain ⟨⟨fo, h1⟩, ⟨ro, h2⟩, h3⟩ := B.ty T hT
    exact bin_typed hF I2.ok.mod.kin J hl B.b.sf B.b.at_ B.b.fn B.rn h1 h2 h3 fin⟩⟩
end
end Z
namespace Z
open PySem PySem.Spec PyProof.Rows L2
/-! ### xs.extend(ys) -/
/-- a list that nobody has laid down for good -/
def plainL (m : Mem) : Vl → Option (List Vl)
  | .lst xs => some xs
  | .obj n => (match m[n]? with
    | some (.lst xs) => some xs
    | _ => none)
  | _ => none
def extM : FM := fun x xs m => match x, xs with
  | .obj n, [y] => (match m[n]?, plainL m y with
    | some (.lst ys), some zs => if ys.length + zs.length ≤ sizeLine then some (.non, m.set n (.lst (ys ++ zs))) else none
    | _, _ => none)
  | _, _ => none
theorem plainL_ok {K : PySem.W.Frag} {ρ : Lay} {m : Mem} {H : Hp} {x : Vl} {v : V} {xs : List Vl} (M : RM K ρ m H) (a : RV K ρ H x v) (h : plainL m x = some xs) : ∃ b vs, v = .ref b ∧ H b = some (.lst vs) ∧ RVs K ρ H xs vs := by
  cases x with
  | lst ys =>
    cases h
    obtain ⟨b, vs, rfl, _, h1, h2⟩ := a
    exact ⟨b, vs, rfl, h1, h2⟩
  | obj n =>
    unfold plainL at h
    dsimp only at h
    split at h
    · rename_i ys hy
      cases h
      obtain ⟨q, rfl, hq⟩ := a
      obtain ⟨us, h1, h2⟩ := M.at_ _ _ _ hy hq
      exact ⟨q, us, rfl, h1, h2⟩
    · cases h
  | _ => cases h
theorem smf_ext {K : PySem.W.Frag} : SMF K extM "list" rExtend := fun ρ m H x xs v vs z m' Q M a b e k => by
  unfold extM at e
  split at e
  · rename_i n y
    split at e
    · rename_i ys zs hy hz
      split at e
      · rename_i hc
        cases e
        obtain ⟨q, rfl, hq⟩ := a
        obtain ⟨us, h1, h2⟩ := M.at_ _ _ _ hy hq
        obtain ⟨v, s, rfl, r1, r2⟩ := b
        subst r2
        obtain ⟨p, ws, rfl, h3, h4⟩ := plainL_ok M r1 hz
        obtain ⟨M', E'⟩ := put_lst M hq (h2.append h4)
        exact ⟨q, p, us, ws, rfl, rfl, h1, h3, by rw [← h2.length, ← h4.length]; exact hc, k ρ _ _ M' E' rfl⟩
      · cases e
    · cases e
  · cases e
section
variable {X : Cx} {o e : Expr} {apos pos : Pos} {de : DE} {d : DA}
theorem se_extend (ho : SE X o de) (ha : SA X [e] d)
    (hbase : attributeBase o "extend" X.env (eval o X.env) = eval o X.env := by rfl)
    (hfew : ((backTo pos (starEach [e] X.env)).all (fun x => !x.1) && (backToKw pos (keywordEach [] X.env)).all (fun x => x.1.isSome)
      && decide ([e].length + ([] : List Keyword).length + (if ([] : List Keyword).isEmpty then 0 else 1) < 30)) = true := by rfl)
    (hline : (apos.endLine == pos.line) = true := by rfl) (hs : starEach [e] X.env = (false, eval e X.env) :: starEach [] X.env := by rfl) (hplain : (backTo pos (starEach [] X.env)).any (·.1) = false := by rfl) :
    SE X (.Call (.Attribute o "extend" apos) [e] [] pos) (dM "list" extM de d) := se_bm PySem.F.plainAttrs_list PySem.F.slot_list_extend PySem.F.type_list_extend mt_extend smf_ext ho ha hbase hfew hline hs hplain
end
theorem extM_z {p : Nat} {m : Mem} {y : Vl} {ys zs : List Vl} (hp : m[p]? = some (.lst ys)) (hy : plainL m y = some zs) (h : ys.length + zs.length ≤ sizeLine) : extM (.obj p) [y] m = some (.non, m.set p (.lst (ys ++ zs))) := by
  unfold extM
  simp only [hp, hy, h, if_true]
/-! ### data in which cells lie -/
def toDd (m : Mem) : Nat → Vl → Option PyData
  | 0, x => toDm m x
  | k + 1, .obj n => (match m[n]? with
    | some (.lst xs) => (mapO (toDd m k) xs).map .list
    | _ => none)
  | k + 1, .lst xs => (mapO (toDd m k) xs).map .list
  | k + 1, .tup xs => (mapO (toDd m k) xs).map .tuple
  | k + 1, x => toD x
theorem dpAll_of {K : PySem.W.Frag} {H : Hp} {f : Vl → Option PyData} {ρ : Lay} (ih : ∀ {x : Vl} {v : V} {d : PyData}, RV K ρ H x v → f x = some d → Dp K H v d) : ∀ {xs : List Vl} {vs : List V} {ds : List PyData}, RVs K ρ H xs vs → mapO f xs = some ds → DpAll K H vs ds
  | [], _, _, h, e => by
    cases e
    rw [show _ = [] from h]
    exact .nil
  | x :: xs, _, _, ⟨v, r, h1, h2, h3⟩, e => by
    subst h1
    unfold mapO at e
    split at e
    · rename_i d hd
      split at e
      · rename_i ds hds
        cases e
        exact .cons (ih h2 hd) (dpAll_of ih h3 hds)
      · cases e
    · cases e
theorem toDd_ok {K : PySem.W.Frag} {ρ : Lay} {m : Mem} {H : Hp} (M : RM K ρ m H) : ∀ (k : Nat) {x : Vl} {v : V} {d : PyData}, RV K ρ H x v → toDd m k x = some d → Dp K H v d
  | 0, x, v, d, h, e => toDm_ok M h e
  | k + 1, x, v, d, h, e => by
    cases x with
    | obj n =>
      unfold toDd at e
      split at e
      · rename_i xs hx
        obtain ⟨ds, h1, rfl⟩ := map_some e
        obtain ⟨p, rfl, hp⟩ := h
        obtain ⟨vs, h2, h3⟩ := M.at_ _ _ _ hx hp
        exact .lst (SqL.of h2) (dpAll_of (toDd_ok M k) h3 h1)
      · cases e
    | lst xs =>
      obtain ⟨ds, h1, rfl⟩ := map_some (show (mapO (toDd m k) xs).map PyData.list = some d from e)
      obtain ⟨p, vs, rfl, _, h2, h3⟩ := h
      exact .lst (SqL.of h2) (dpAll_of (toDd_ok M k) h3 h1)
    | tup xs =>
      obtain ⟨ds, h1, rfl⟩ := map_some (show (mapO (toDd m k) xs).map PyData.tuple = some d from e)
      obtain ⟨p, vs, rfl, h2, h3⟩ := h
      exact .tup h2.sq (dpAll_of (toDd_ok M k) h3 h1)
    | _ => exact toD_ok h e
def reprN : FB := fun xs m => match xs with
  | [x] => (match toDd m 3 x with
    | some d => if (PyData.showable d && !PyData.hasDict d && decide (d.depth ≤ 60) && decide (shB d ≤ sizeLine)) = true then some (.str d.shown, m) else none
    | none => none)
  | _ => none
theorem scf_reprN {K : PySem.W.Frag} : SCF K reprN (fun xs H Q => ∃ x d, xs = [x] ∧ Dp K H x d ∧ PyData.showable d = true ∧ PyData.hasDict d = false ∧ d.depth ≤ 60 ∧ d.shown.length ≤ sizeLine ∧ Q (.str d.shown) H) := fun ρ m H xs vs z m' Q M a e k => by
  unfold reprN at e
  split at e
  · rename_i x
    split at e
    · rename_i d hd
      split at e
      · rename_i c
        cases e
        simp only [Bool.and_eq_true, Bool.not_eq_true', decide_eq_true_eq] at c
        obtain ⟨v, s, rfl, h1, h2⟩ := a
        subst h2
        exact ⟨v, d, rfl, toDd_ok M 3 h1 hd, c.1.1.1, c.1.1.2, c.1.2, Nat.le_trans (shown_le d) c.2, k ρ H _ M .refl rfl⟩
      · cases e
    · cases e
  · cases e
section
variable {X : Cx}
theorem se_reprN {p pos : Pos} {es : List Expr} {e : Expr} {d : DA} (hr : Room 0 X.A) (hg : Gl X "repr") (hm : X.mg "repr" = none) (ha : SA X (e :: es) d) (he : starEach (e :: es) X.env = (false, eval e X.env) :: starEach es X.env := by rfl) (hpl : (backTo pos (starEach es X.env)).any (·.1) = false := by rfl) :
    SE X (.Call (.Name "repr" p) (e :: es) [] pos) (dB reprN d) := se_callB (call_reprD hr) scf_reprN hg hm (by decide +kernel) ha (by decide) (by decide) he hpl
end
end Z
namespace Z
open PySem PySem.Spec PyProof.Rows L2
/-! ### x(..) of an instance whose class has a __call__ -/
section
open PySem.W
variable {prog : Program} {w : World} {A : Around} {E : Value → Shared → Prop} {s : Shared} {K : Frag} {q dx C f : Addr}
theorem callWith_inst {pos : Pos} {first : List Value} {args : List (Bool × Sem Value)} {Q : Value → Shared → Prop} (hp : args.any (·.1) = false)
    (h : wpAny (model prog w) A (evalArgs (.ref q) true args []) (fun x s₁ => (∃ dx, s₁.heap.get? q = some (instObj C dx)) ∧ wpAny (model prog w) A (call (.ref q) (first ++ x.pos) x.kw) Q E s₁) E s) : wpAny (model prog w) A (callWith pos (.ref q) first args []) Q E s := by
  unfold callWith
  refine wpAny_bind (wpAny_holding (wpAny_mono h (fun x s₁ h₁ => wpAny_bind (wpAny_standAt ?_)) fun _ _ x => x))
  obtain ⟨⟨dx, ho⟩, hcall⟩ := h₁
  simp only [hp, List.any_nil, Bool.or_false]
  refine wpAny_bind (m := keeperOf (.ref q)) ?_
  unfold keeperOf
  refine wpAny_bind (wpAny_load ho ?_)
  have e1 : ((Value.ref C) != Value.type "method") = true := by
    rw [bne_iff_ne]
    intro e
    cases e
  have e2 : (Value.ref C == Value.type "builtin_function_or_method" || Value.ref C == Value.type "method-wrapper") = false := by
    rw [Bool.or_eq_false_iff, beq_eq_false_iff_ne, beq_eq_false_iff_ne]
    exact ⟨fun e => (by cases e), fun e => (by cases e)⟩
  simp only [instObj, e1, e2, if_true, Bool.false_eq_true, if_false]
  refine wpAny_pure ?_
  refine wpAny_bind (wpAny_operate' (wpAny_mono hcall (fun r s₂ hr => wpAny_bind (wpAny_holding (wpAny_point (wpAny_pure hr)))) fun _ _ x => x))
theorem codeAny_inst {us : List Value} {kw : List (Str × Value)} {R : Result → Shared → Prop} {od : Option Obj} {of : Obj} {fd : FuncData} (X : K.In s.heap) (I : InstAt s.heap q (instObj C dx) C od)
    (hs : findIn K (.ref C) "__call__" = some (some (.ref f))) (hf : isFn K (.ref f) = true) (ho : s.heap.get? f = some of) (hd : of.data = .func fd)
    (h : codeAny (model prog w) A (.call (.ref f) ⟨.ref q :: us, kw⟩) R s) : codeAny (model prog w) A (.call (.ref q) ⟨us, kw⟩) R s := by
  have e2 : (Value.ref C == Value.type "method" || Value.ref C == Value.type "builtin_function_or_method" || Value.ref C == Value.type "method-wrapper") = false := by
    rw [Bool.or_eq_false_iff, Bool.or_eq_false_iff, beq_eq_false_iff_ne, beq_eq_false_iff_ne, beq_eq_false_iff_ne]
    exact ⟨⟨fun e => (by cases e), fun e => (by cases e)⟩, fun e => (by cases e)⟩
  refine codeAny_of_tree ?_
  show wpAny _ _ (callAny (.ref q) ⟨us, kw⟩) _ _ s
  unfold callAny
  refine wpAny_bind (wpAny_load I.at_ ?_)
  simp only [instObj, e2, Bool.false_eq_true, if_false]
  unfold callAny.viaDunder
  refine wpAny_bind (wpAny_bind (I.type.here ((looks_findIn X hs).here ?_)))
  refine wpAny_bind ((bind_fn X _ (beq_iff_eq.mp hf)).here ?_)
  unfold callAny.plainCallee
  refine wpAny_bind (wpAny_bind (wpAny_load ho ?_))
  rw [hd]
  refine wpAny_pure ?_
  exact wpAny_pure ⟨rfl, h⟩
end
structure CallM (K : PySem.W.Frag) (c : Str) (f : Addr) : Prop where
  at_ : PySem.W.findIn K (.ref (He.ga K c)) "__call__" = some (some (.ref f))
  fn : PySem.W.isFn K (.ref f) = true
  fi : PySem.W.fnIn K f = true
def ckCallM (c : Str) : Ck := fun K => He.eqO (PySem.W.findIn K (.ref (He.ga K c)) "__call__") (some (some (.ref (He.ma K (He.ga K c) "__call__")))) && (PySem.W.isFn K (.ref (He.ma K (He.ga K c) "__call__")) && PySem.W.fnIn K (He.ma K (He.ga K c) "__call__"))
theorem ckCallM_ok {K : PySem.W.Frag} {c : Str} (h : ckCallM c K = true) : CallM K c (He.ma K (He.ga K c) "__call__") := by
  unfold ckCallM at h
  rw [Bool.and_eq_true, Bool.and_eq_true] at h
  exact ⟨He.eqO_ok h.1, h.2.1, h.2.2⟩
section
variable {X : Cx} {e : Expr} {es : List Expr} {c : Str} {p pos : Pos} {x : Str} {de : DE} {d : DA} {k n : Nat} {f : Addr} {gz : List Vl → List Vl → List Vl} {g : FD}
/-- the receiver is an instance of c, before the arguments and behind them -/
def dICall (c : Str) (n : Nat) (gz : List Vl → List Vl → List Vl) (g : FD) (de : DE) (d : DA) : DE := fun env m => bindR (de env m) fun x m => match insD m x with
  | some (c', _) => if c' = c then bindR (d env m) fun xs m => (match insD m x with
    | some (c2, _) => if c2 = c ∧ xs.length = n then g (gz (x :: xs) []) m else none
    | none => none) else none
  | none => none
theorem se_icall (B : CallM X.K c f) (F : Fz X.prog X.w X.K X.mg X.base k f (n + 1) [] gz g) (hr : Room k X.A) (hv : SE X (.Name x p) de) (ha : SA X (e :: es) d)
    (he : starEach (e :: es) X.env = (false, eval e X.env) :: starEach es X.env := by rfl) (hpl : (backTo pos (starEach es X.env)).any (·.1) = false := by rfl) : SE X (.Call (.Name x p) (e :: es) [] pos) (dICall c n gz g de d) := ⟨fun W tk => ⟨fun pins s σ H Q I h => by
  obtain ⟨ρ, env, m, z, m', st, ee, pp⟩ := h
  have h' : rdE X.K W de σ H (fun v H1 => ∃ q, v = .ref q ∧ rdA X.K W d σ H1 fun vs H2 => ∃ dx gs ρ' m1 xv xs, H2 q = some (.ins (He.ga X.K c) dx gs) ∧ RM X.K ρ' m1 H2 ∧ RV X.K ρ' H2 xv v ∧ RVs X.K ρ' H2 xs vs ∧ xs.length = n ∧ g (gz (xv :: xs) []) m1 = some (z, m') ∧ Po X.K ρ' H2 (RV X.K) (fun c dd H' => W c dd σ H') Q z m') :=
    bindE st ee pp fun x m1 ρ1 H1 v s1 E1 r1 e1 p1 => by
      split at e1
      · rename_i c' fs hi
        split at e1
        · rename_i hc'
          subst hc'
          obtain ⟨q, dx, gs, rfl, h3, h4⟩ := insD_ok s1.mem r1 hi
          refine ⟨q, rfl, bindA s1 e1 p1 fun xs m2 ρ2 H2 vs s2 E2 r2 e2 p2 => ?_⟩
          split at e2
          · rename_i c2 fs2 hi2
            split at e2
            · rename_i hc
              obtain ⟨rfl, hn⟩ := hc
              obtain ⟨q', dx', gs', eq, h5, h6⟩ := insD_ok s2.mem (r1.mono E2) hi2
              cases eq
              exact ⟨dx', gs', ρ2, m2, x, xs, h5, s2.mem, r1.mono E2, r2, hn, e2, p2⟩
            · cases e2
          · cases e2
        · cases e1
      · cases e1
  refine wpAny_Call_Name_kw (thn ((hv.run W tk).run pins s σ H _ I h') fun u s1 ⟨v, H1, I1, rx, q, ev, q1⟩ => ?_)
  subst ev
  obtain rfl : u = Value.ref q := rx
  show wpAny _ _ (callWith pos (.ref q) [] (backTo pos (starEach (e :: es) X.env)) []) _ _ _
  rw [he]
  have hp : ((backTo pos ((false, eval e X.env) :: starEach es X.env)).any (·.1)) = false := by
    show (false || (backTo pos (starEach es X.env)).any (·.1)) = false
    rw [hpl]
    rfl
  have run := (ha.run W tk).run pos pins s1 σ _ _ I1 q1
  rw [he] at run
  refine callWith_inst (C := He.ga X.K c) hp (PySem.Calls.evalArgs_plain (thn run fun us s2 ⟨vs, H2, I2, r, dx, gs, ρ2, m2, xv, xs, hq, M2, rxv, rxs, hn, eg, p2⟩ => ?_))
  obtain ⟨mA, Oa, _⟩ := ins_get I2.hok hq
  obtain ⟨od, J, _⟩ := Oa.look
  refine ⟨⟨dx, Oa.obj⟩, ?_⟩
  obtain ⟨of, fd0, ho, hd⟩ : ∃ (of : Obj) (fd : FuncData), s2.heap.get? f = some of ∧ of.data = .func fd := by
    have hfi := B.fi
    unfold PySem.W.fnIn at hfi
    split at hfi
    · rename_i e
      exact ⟨_, _, I2.kIn _ _ e, rfl⟩
    · cases hfi
  obtain ⟨fd, ps, gs', gV, h1, h2, h3⟩ := F.ex
  obtain ⟨hl, rg⟩ := h3 ρ2 H2 (xv :: xs) (.ref q :: vs) [] [] (by rw [List.length_cons, hn]) rfl ⟨_, _, rfl, rxv, rxs⟩ rfl
  have r1 : Vals (V.ref q :: vs) (Value.ref q :: us) := .cons rfl r
  have r2 := h2.rel r1 (.nil : Vals [] [])
  show wpAny _ _ (call (.ref q) us []) _ _ _
  refine wpAny_call (codeAny_inst I2.kIn J B.at_ B.fn ho hd (codeAny_mono (h1.run X.A X.stack s2 H2 ⟨.ref q :: us, []⟩ (gs' (.ref q :: us) []) (gV (.ref q :: vs) []) Q (fun c dd H' => W c dd σ H') hr I2.env0 (h2.to s2 (.ref q :: us) [] I2.kIn (by rw [List.length_cons, ← r.length, ← rxs.length, hn]) rfl) r2 ⟨hl, ρ2, m2, _, z, m', M2, rg, eg, p2⟩) fun rr s' hq' => ?_))
  cases rr with
  | error er => exact tk er s' (XE.of_call I2 (fun _ _ _ h => h) hq')
  | ok fl =>
    cases fl with
    | ret w => exact I2.after hq'
    | next => exact False.elim hq'
    | brk => exact False.elim hq'
    | cont => exact False.elim hq'⟩⟩
end
end Z
namespace Z
open PySem PySem.Spec PyProof.Rows L2
/-! ### t[lo:hi] of a tuple, the whole of it too -/
def slA (x : Vl) (lo hi : Option Int) (m : Mem) : Option (Vl × Mem) := match x with
  | .tup xs => some (.tup (cutZ xs lo hi), m)
  | _ => none
theorem cutZ_whole {xs : List Vl} {lo hi : Option Int} (h : HT.sIx xs.length 0 lo = 0 ∧ HT.sIx xs.length xs.length hi = xs.length) : cutZ xs lo hi = xs := by
  unfold cutZ
  rw [h.1, h.2]
  simp
theorem slA_ok {K : PySem.W.Frag} {ρ : Lay} {m : Mem} {H : Hp} {x : Vl} {v : V} {lo hi : Option Int} {z : Vl} {m' : Mem} {Q : VK} (M : RM K ρ m H) (a : RV K ρ H x v) (e : slA x lo hi m = some (z, m'))
    (k : ∀ ρ' H' w, RM K ρ' m' H' → Ext ρ H ρ' H' → RV K ρ' H' z w → Q w H') : rSlA K v lo hi H Q := by
  unfold slA at e
  split at e
  · rename_i xs
    cases e
    have a0 := a
    obtain ⟨p, vs, rfl, h1, h2⟩ := a
    refine ⟨p, vs, rfl, h1.sq, fun hw => ?_, fun hw n hn => k ρ _ _ (M.laid hn) (ext_new hn) (new_tup M hn h2.cut)⟩
    rw [← h2.length] at hw
    refine k ρ H _ M .refl ?_
    rw [cutZ_whole hw]
    exact a0
  · cases e
def dSlA (da : DE) (lo hi : DO) : DE := fun env m => bindR (da env m) fun x m => bindR (lo env m) fun l m => bindR (hi env m) fun h m => okR (slA x l h m)
section
variable {X : Cx} {a b : Expr} {pos : Pos} {da db : DE}
theorem se_sliceA {lo hi : Option Expr} {p2 : Pos} {dl dh : DO} (ha : SE X a da) (hl : SO X lo dl) (hh : SO X hi dh) : SE X (.Subscript a (.Slice lo hi none p2) pos) (dSlA da dl dh) := ⟨fun W tk =>
  impPE (pe_slice sl_tupA (ha.run W tk) (hl.run W tk) (hh.run W tk)) fun σ H Q ⟨ρ, env, m, z, m', s, e, p⟩ =>
    bindE s e p fun x m1 ρ1 H1 v s1 E1 r1 e1 p1 => bindO s1 e1 p1 fun l m2 ρ2 H2 s2 E2 e2 p2 => bindO s2 e2 p2 fun h m3 ρ3 H3 s3 E3 e3 p3 => by
      obtain ⟨w, h1, rfl⟩ := okR_some e3
      exact slA_ok s3.mem (r1.mono (E2.trans E3)) h1 fun ρ' H' u' M E r => p3 ρ' H' M E u' r⟩
/-! t + u of tuples, empty ones too -/
def catT : F2 := fun x y m => match x, y with
  | .tup a, .tup b => if a.length + b.length ≤ sizeLine then some (.tup (a ++ b), m) else none
  | _, _ => none
theorem sf_catT {K : PySem.W.Frag} : SF2 K catT (rCatA K) := fun ρ m H x y v u z m' Q M ra rb e k => by
  unfold catT at e
  split at e
  · rename_i xs ys
    split at e
    · rename_i hz
      cases e
      have ra0 := ra
      have rb0 := rb
      obtain ⟨p, vs, rfl, h1, h2⟩ := ra
      obtain ⟨q, ws, rfl, h3, h4⟩ := rb
      refine ⟨p, q, vs, ws, rfl, rfl, h1.sq, h3.sq, by rw [← h2.length, ← h4.length]; exact hz, fun hv => ?_, fun hv hw => ?_, fun hv hw n hn => k ρ _ _ (M.laid hn) (ext_new hn) (new_tup M hn (h2.append h4))⟩
      · have : xs = [] := h2.nil_iff.mpr hv
        subst this
        exact k ρ H _ M .refl rb0
      · have : ys = [] := h4.nil_iff.mpr hw
        subst this
        refine k ρ H _ M .refl ?_
        rw [List.append_nil]
        exact ra0
    · cases e
  · cases e
theorem se_catT (ha : SE X a da) (hb : SE X b db) : SE X (.BinOp a .Add b pos) (d2 catT da db) := se_2 op_catA sf_catT ha hb
end
theorem catT_tup {a b : List Vl} {m : Mem} (h : a.length + b.length ≤ sizeLine) : catT (.tup a) (.tup b) m = some (.tup (a ++ b), m) := by
  show (if a.length + b.length ≤ sizeLine then some (Vl.tup (a ++ b), m) else none) = _
  rw [if_pos h]
@[simp] theorem dSlA_ap {da : DE} {lo hi : DO} {env : Ev} {m : Mem} : dSlA da lo hi env m = bindR (da env m) fun x m => bindR (lo env m) fun l m => bindR (hi env m) fun h m => okR (slA x l h m) := rfl
@[simp] theorem slA_tup {xs : List Vl} {lo hi : Option Int} {m : Mem} : slA (.tup xs) lo hi m = some (.tup (cutZ xs lo hi), m) := rfl
end Z
namespace Z
open PySem PySem.Spec PyProof.Rows L2
/-! ### enumerate of a tuple -/
theorem meets_enum_one {v : Value} {o : Obj} {G : Heap → Prop} (B : Begins v o G) :
    Meets (Builtin.«enumerate.__new__» ⟨[.type "enumerate", v], []⟩) (fun _ R s => G s.heap ∧
      R (.ok (.ret (.ref (s.heap.push o).objs.size))) { s with heap := (s.heap.push o).push { cls := .type "enumerate", data := .fields #[.none, .bool false, .ref s.heap.objs.size, rawInt 0, .none, .none] } }) :=
  .of_wp fun prog w A R s h => by
    obtain ⟨hp, g, d, tk, os⟩ := s
    obtain ⟨h1, h⟩ := h
    have hsub := sub_enumerate
    have it1 : ∀ {A' : Around} {E : Value → Shared → Prop} {Q : Value → Shared → Prop}, Q (.ref hp.objs.size) ⟨hp.push o, g, d, tk, os⟩ → wpAny (model prog w) A' (pyIter v) Q E ⟨hp, g, d, tk, os⟩ :=
      fun q => B.iter prog w _ _ ⟨hp, g, d, tk, os⟩ _ h1 q
    wp_walk using it1
    refine wpAny_stack_any fun st => wpAny_pure ?_
    split
    · rename_i c _ _ _ _ _
      cases (c == Value.type "enumerate") <;>
      · wp_walk using it1
        exact ⟨_, rfl, h⟩
    · wp_walk using it1
      exact ⟨_, rfl, h⟩
section
variable {prog : Program} {w : World} {A : Around} {E : Value → Shared → Prop} {s : Shared}
theorem enum_one {v : Value} {o : Obj} {G : Heap → Prop} {Q : Value → Shared → Prop} (B : Begins v o G) (h1 : G s.heap)
    (h : ∀ h', IsEnum h' (s.heap.objs.size + 1) s.heap.objs.size 0 .none → h'.get? s.heap.objs.size = some o →
      (∀ b o, s.heap.get? b = some o → h'.get? b = some o) → Q (.ref (s.heap.objs.size + 1)) { s with heap := h' }) :
    wpAny (model prog w) A (call (.type "enumerate") [v]) Q E s := by
  refine callType_new F.called_enumerate (by decide) (F.typeCall_enumerate_1 _) (F.newCall_enumerate_1 _)
    (fun obj => F.args_object_init_2 obj _) F.entry_enumerate_new (meets_enum_one B) ⟨h1, ?_⟩
  have hz : (s.heap.push o).objs.size = s.heap.objs.size + 1 := Heap.size_push ..
  show _ ∧ _
  rw [hz]
  have he : IsEnum ((s.heap.push o).push { cls := .type "enumerate", data := .fields #[.none, .bool false, .ref s.heap.objs.size, rawInt 0, .none, .none] }) (s.heap.objs.size + 1) s.heap.objs.size 0 .none := by
    have q := Heap.get?_push_size (s.heap.push o) (o := { cls := .type "enumerate", data := .fields #[.none, .bool false, .ref s.heap.objs.size, rawInt 0, .none, .none] }) rfl
    rw [hz] at q
    exact q
  exact ⟨⟨_, he, rfl⟩, h _ he (Heap.get?_push_of_some _ (Heap.get?_push_size _ B.free)) fun b o x => Heap.get?_push_of_some _ (Heap.get?_push_of_some _ x)⟩
theorem enum_tup_end {e it t : Addr} {items : Array Value} {j : Nat} {i : Int} {old : Value} {Q : Option Value → Shared → Prop}
    (hh : A.in1.handled = none) (he : IsEnum s.heap e it i old) (hit : s.heap.IsTupleIter it t j) (ht : s.heap.IsTuple t items) (hj : items[j]? = none)
    (hQ : ∀ h', Heap.ExtBut it s.heap h' → Q none { s with heap := h' }) : wpAny (model prog w) A (pyNext (.ref e)) Q E s := by
  have hTe : s.TypeIs (.ref e) "enumerate" := ⟨_, he, rfl⟩
  unfold pyNext
  refine wpAny_bind (wpAny_attempt (wpAny_callSpecial?_slot (name := Str.ofString "__next__") hTe F.slot_enumerate_next (wpAny_call_entry F.slot_enumerate_next hTe F.entry_enumerate_next ?_ (F.args_enumerate_next_1 _))))
  show wpAny (model prog w) _ (field (.ref e) 2 >>= _) _ _ _
  refine wpAny_bind (wpAny_field he rfl (x := .ref it) rfl (wpAny_bind (wpAny_nextOf_tuple_end hh hit ht hj fun h' x ext hx' => ?_)))
  obtain ⟨o, ho, hc⟩ := hx'
  exact wpAny_bind (wpAny_isInstance (T := "StopIteration") (b := true) ⟨o, ho, hc⟩ isSubtype_stop (wpAny_pure (hQ _ ext)))
end
/-- a tuple's items, each in a new pair -/
def IteT (K : PySem.W.Frag) (a : Addr) : It :=
  ⟨fun i H => ∃ (xs : List V) (x : V), SqT K H a xs ∧ xs[i]? = some x,
    fun i H v H' => ∃ T x, v = .ref T ∧ H T = none ∧ H' = upd H T (.tup [.int (i : Nat), x]) ∧ ∀ xs, SqT K H a xs → xs[i]? = some x,
    fun i H => ∃ xs : List V, SqT K H a xs ∧ xs.length ≤ i⟩
theorem turn_enumT {P : Program} {w : World} {K : PySem.W.Frag} {elts : List Expr} {kk : Nat} {tpos : Pos} (a e it : Addr) :
    Turn P w K (.Tuple elts kk tpos) (IteT K a) [e, it] e (fun i h => (∃ old, IsEnum h e it ((i : Nat) : Int) old) ∧ h.IsTupleIter it a i ∧ e ≠ it ∧ e ≠ a ∧ a ≠ it) where
  mem := by simp
  obj := fun i h st b hb => by
    obtain ⟨⟨old, he⟩, ⟨o, ho, hc, hd⟩, _⟩ := st
    rcases (show b = e ∨ b = it by simpa using hb) with z | z
    · rw [z]
      exact ⟨_, he, fun v q => nomatch q⟩
    · rw [z]
      exact ⟨o, ho, fun v q => by rw [hd] at q; cases q⟩
  keep := fun i h h' st k => by
    obtain ⟨⟨old, he⟩, hi, hne⟩ := st
    exact ⟨⟨old, k e (by simp) _ he⟩, hi.at fun o q => k it (by simp) o q, hne⟩
  item := by
    intro X hP hw hK hc i pins s σ H E I hf st hg
    subst hP hw hK
    obtain ⟨⟨old, he⟩, hit, hne, hea, hai⟩ := st
    obtain ⟨xs, x, hq, hx⟩ := hg
    obtain ⟨its, rv, p, hz⟩ := I.tuple hq
    obtain ⟨u, hu, ru⟩ := rv.get hx
    have hel : e < s.heap.objs.size := Heap.lt_size he
    have hil : it < s.heap.objs.size := by
      obtain ⟨_, q, _⟩ := hit
      exact Heap.lt_size q
    have hh : X.A.in1.handled = none := I.ok.hd hc
    have hlt : i < its.toArray.size := by
      rw [List.size_toArray]
      exact getlt hu
    refine wpAny_pyNext_enum_itemD (Draws.tuple hh it a hai its.toArray) he ⟨hit, p⟩ hlt hne (by simp [hne, hea]) fun y h' tk hy ho hs' hT hsz hk => ?_
    obtain rfl : y = u := by
      have e1 : its.toArray[i]? = some u := by simpa using hu
      rw [e1] at hy
      cases hy
      rfl
    refine ⟨_, rfl, wpAny_letOwnedTupleGo_enum (s := { s with heap := h', toks := tk + 1 }) ho fun h'' he' sb => ?_⟩
    have hT2 : h''.get? s.heap.objs.size = some { cls := .type "tuple", data := .seq #[.int i tk, y] } := (sb.2 _ (Nat.ne_of_gt hel)).trans hT
    have new : ObjOk X.prog X.w (upd H s.heap.objs.size (.tup [.int (i : Nat), x])) h'' s.heap.objs.size (.tup [.int (i : Nat), x]) :=
      ⟨by show 2 ≤ sizeLine; decide, [.int i tk, y], .cons ⟨_, rfl⟩ (.cons ru .nil), ⟨_, hT2, rfl, _, rfl⟩⟩
    have I1 : Inv X pins σ (upd H s.heap.objs.size (.tup [.int (i : Nat), x])) { s with heap := h'', toks := tk + 1 } :=
      I.turnedNew (ch := [e, it]) (fun b ob hb q => (sb.2 b (fun z => hb (by simp [z]))).trans (hk b ob (fun z => hb (by simp [z])) (fun z => hb (by simp [z])) q)) hf (Nat.le_refl _) new
    refine ⟨.ref s.heap.objs.size, _, I1, rfl, ⟨_, x, rfl, I.hok.fresh (Nat.le_refl _), rfl, fun ys hy => by rw [I.tuple_inj hy hq]; exact hx⟩, ⟨⟨y, ?_⟩, hs'.1.at fun o q => (sb.2 it (Ne.symm hne)).trans q, hne, hea, hai⟩, fun b hb => ?_⟩
    · have e1 : ((i + 1 : Nat) : Int) = (i : Int) + 1 := by omega
      rw [e1]
      exact he'
    · have hb' : b < s.heap.objs.size := by
        rcases (show b = e ∨ b = it by simpa using hb) with z | z
        · rw [z]
          exact hel
        · rw [z]
          exact hil
      rw [upd_ne (Nat.ne_of_lt hb')]
      exact (hf b hb).1
  done := by
    intro X hP hw hK hc i pins s σ H E I hf st hg
    subst hP hw hK
    obtain ⟨⟨old, he⟩, hit, hne, hea, hai⟩ := st
    obtain ⟨xs, hq, hx⟩ := hg
    obtain ⟨its, rv, p, hz⟩ := I.tuple hq
    obtain ⟨f0, f1, f2, f3, f4, f5⟩ := hf it (by simp)
    have hl := rv.length
    exact enum_tup_end (I.ok.hd hc) he hit p (by simp; omega) fun h' eb => ⟨rfl, I.turned (t' := s.toks) (fun b o hb q => eb b o hb q) f0 f1 f3 f4 f5⟩
  self := fun A i s Q E st h => let ⟨⟨_, he⟩, _⟩ := st; wpAny_pyIter_enum he h
section
variable {X : Cx} {e : Expr} {p pos tpos : Pos} {elts : List Expr} {kk : Nat}
def iEnumT (K : PySem.W.Frag) (ta : TA) : TI := fun σ H R => ta σ H fun vs H1 => ∃ a xs, vs = [.ref a] ∧ SqT K H1 a xs ∧ R (IteT K a) H1
theorem pi_enumT {ta : TA} (hg : Gl X "enumerate") (hm : X.mg "enumerate" = none) (ha : PA X [e] ta) (hs : starEach [e] X.env = [(false, eval e X.env)] := by rfl) :
    PI X (.Tuple elts kk tpos) (.Call (.Name "enumerate" p) [e] [] pos) (iEnumT X.K ta) := by
  refine ⟨fun pins s σ H R I h => ?_⟩
  refine Call_ (ld_blt I hg hm boot_enumerate (PyProof.Rows.callWith_type1 (thn (ha.run pos pins s σ H _ I h) fun us s1 ⟨vs, H1, I1, r1, q1⟩ => ?_) hs rfl))
  obtain ⟨a, xs, ex, hq, q⟩ := q1
  subst ex
  cases r1 with
  | cons r rr =>
    cases rr
    cases r
    obtain ⟨its, rv, pt, hz⟩ := I1.tuple hq
    have hal : a < s1.heap.objs.size := by
      obtain ⟨o, ho, _⟩ := pt
      exact Heap.lt_size ho
    refine enum_one (begins_tuple a its.toArray) pt fun h' he hit hk => wpAny_pyIter_enum he ?_
    have I2 : Inv X pins σ H1 { s1 with heap := h' } := I1.kept (t' := s1.toks) hk
    refine ⟨s1.heap.objs.size + 1, [s1.heap.objs.size + 1, s1.heap.objs.size], _, _, H1, rfl, I2, turn_enumT a (s1.heap.objs.size + 1) s1.heap.objs.size, ⟨⟨.none, he⟩, ⟨_, hit, rfl, rfl⟩, Nat.succ_ne_self _, (Nat.ne_of_gt (Nat.lt_succ_of_lt hal)), Nat.ne_of_lt hal⟩, fun b hb => ?_, q⟩
    have hle : s1.heap.objs.size ≤ b := by
      rcases (show b = s1.heap.objs.size + 1 ∨ b = s1.heap.objs.size by simpa using hb) with z | z
      · rw [z]
        exact Nat.le_add_right _ _
      · rw [z]
        exact Nat.le_refl _
    exact I1.fpOk hle (I1.hok.fresh hle)
theorem itOk_enumT {K : PySem.W.Frag} {ρ0 : Lay} {H0 : Hp} {a : Addr} {vs : List V} {xs : List Vl} (h : ∀ ρ H, Ext ρ0 H0 ρ H → SqT K H a vs) (r : RVs K ρ0 H0 xs vs) : ItOk K (IteT K a) ρ0 H0 (enumZ xs) := fun i ρ m H E M => by
  refine ⟨fun y hy => ?_, fun hl => ⟨vs, h ρ H E, by rw [← r.length, ← enumZ_len (xs := xs)]; exact hl⟩⟩
  obtain ⟨x, hx, rfl⟩ := enumZ_get hy
  obtain ⟨v, h1, h2⟩ := r.get hx
  refine ⟨⟨vs, v, h ρ H E, h1⟩, fun w H' q => ?_⟩
  obtain ⟨T, u, rfl, hT, rfl, q2⟩ := q
  have q3 := q2 vs (h ρ _ E)
  rw [h1] at q3
  cases q3
  exact ⟨M.laid hT, ext_new hT, new_tup M hT ⟨_, _, rfl, rfl, _, _, rfl, h2.mono E, rfl⟩⟩
def iEnmT (d : DA) : DA := fun env m => bindR (d env m) fun xs m => match xs with
  | [.tup ys] => some (.ok (enumZ ys), m)
  | _ => none
theorem si_enumT {d : DA} (hg : Gl X "enumerate") (hm : X.mg "enumerate" = none) (ha : SA X [e] d) (hs : starEach [e] X.env = [(false, eval e X.env)] := by rfl) :
    SI X (.Tuple elts kk tpos) (.Call (.Name "enumerate" p) [e] [] pos) (iEnmT d) := ⟨fun W tk => impPI (pi_enumT hg hm (ha.run W tk) hs) fun σ H R h =>
  rdI_A (Q := fun vs H1 => ∃ a xs, vs = [.ref a] ∧ SqT X.K H1 a xs ∧ R (IteT X.K a) H1) h (fun x m1 ρ env xs v H1 s r e k => by
    split at e
    · rename_i ys
      cases e
      obtain ⟨w, vs, rfl, r1, r2⟩ := r
      subst r2
      obtain ⟨q, vs, rfl, h1, h2⟩ := r1
      exact ⟨q, vs, rfl, h1.sq, k _ (itOk_enumT (fun ρ' H' E => (h1.mono E).sq) h2)⟩
    · cases e) fun x m r m' e => by
    split at e
    · cases e
      exact ⟨⟨_, rfl⟩, rfl⟩
    · cases e⟩
end
@[simp] theorem iEnmT_ap {d : DA} {env : Ev} {m : Mem} : iEnmT d env m = bindR (d env m) fun xs m => match xs with
  | [.tup ys] => some (.ok (enumZ ys), m)
  | _ => none := rfl
end Z
namespace Z
open PySem PySem.Spec PyProof.Rows L2
/-! ### while: so many turns at most -/
def whileL (t : DT) (b : DS) : Nat → DS
  | 0 => fun _ _ => none
  | k + 1 => fun env m => bindS (t env m) env fun x m => if x = true then (match b env m with
    | some (.nx env2, m2) => whileL t b k env2 m2
    | some (.ct env2, m2) => whileL t b k env2 m2
    | some (.bk env2, m2) => some (.nx env2, m2)
    | r => r) else some (.nx env, m)
def dWhile (n : Nat) (t : DT) (b : DS) : DS := whileL t b n
theorem ss_while {X : Cx} {c : Expr} {body : List Stmt} {pos : Pos} {n : Nat} {t : DT} {b : DS} (hp : PassesOwn (model X.prog X.w) X.A X.env X.xe) (hc : ST X c t) (hb : SSs X body b) : SS X (.While c body [] pos) (dWhile n t b) := ⟨fun W tk =>
  impPS (ps_while hp (hc.run W tk) (hb.run W tk)) fun D σ H ⟨ρ, env, m, f, m', s, e, p⟩ => by
    refine ⟨fun k σ1 H1 => ∃ ρ1 env1 m1, S X.K ρ1 env1 m1 σ1 H1 ∧ whileL t b k env1 m1 = some (f, m') ∧ PoS X.K ρ1 H1 W D f m', ⟨n, ρ, env, m, s, e, p⟩, ?_⟩
    rintro k σ1 H1 ⟨ρ1, env1, m1, s1, e1, p1⟩
    cases k with
    | zero => cases e1
    | succ k =>
      refine sbT s1 e1 p1 fun x m2 ρ2 H2 s2 E2 e2 p2 => ?_
      cases x with
      | false =>
        rw [if_neg (by decide)] at e2 ⊢
        cases e2
        exact p2 ρ2 H2 s2.mem .refl _ s2.env
      | true =>
        rw [if_pos rfl] at e2 ⊢
        refine ⟨fun σ3 H3 => ∃ ρ3 env3 m3, S X.K ρ3 env3 m3 σ3 H3 ∧ whileL t b k env3 m3 = some (f, m') ∧ PoS X.K ρ3 H3 W D f m', fun σ3 H3 h => ⟨k, Nat.lt_succ_self k, h⟩, ?_⟩
        split at e2
        · rename_i env2 m3 hb'
          exact ⟨ρ2, env1, m2, _, _, s2, hb', fun ρ4 H4 M4 E4 σ4 r4 => ⟨ρ4, env2, m3, ⟨M4, r4⟩, e2, p2.mono E4⟩⟩
        · rename_i env2 m3 hb'
          exact ⟨ρ2, env1, m2, _, _, s2, hb', fun ρ4 H4 M4 E4 σ4 r4 => ⟨ρ4, env2, m3, ⟨M4, r4⟩, e2, p2.mono E4⟩⟩
        · rename_i env2 m3 hb'
          cases e2
          exact ⟨ρ2, env1, m2, _, _, s2, hb', fun ρ4 H4 M4 E4 σ4 r4 => p2 ρ4 H4 M4 E4 σ4 r4⟩
        · rename_i r0 n1 n2 n3
          refine ⟨ρ2, env1, m2, f, m', s2, e2, fun ρ4 H4 M4 E4 => ?_⟩
          have pp := p2 ρ4 H4 M4 E4
          cases f with
          | rt v => exact pp
          | ex c fs env2 => exact pp
          | nx env2 => exact absurd e2 (n1 env2 m')
          | ct env2 => exact absurd e2 (n2 env2 m')
          | bk env2 => exact absurd e2 (n3 env2 m')⟩
theorem whileL_t {t : DT} {b : DS} {k : Nat} {env env2 : Ev} {m m1 m2 : Mem} (h1 : t env m = some (.ok true, m1)) (h2 : b env m1 = some (.nx env2, m2)) : whileL t b (k + 1) env m = whileL t b k env2 m2 := by
  show bindS (t env m) env _ = _
  rw [h1]
  simp only [bindS_ok, if_true, h2]
theorem whileL_f {t : DT} {b : DS} {k : Nat} {env : Ev} {m m1 : Mem} (h1 : t env m = some (.ok false, m1)) : whileL t b (k + 1) env m = some (.nx env, m1) := by
  show bindS (t env m) env _ = _
  rw [h1]
  simp
/-! ### dicts: keys ints and texts, or tuples of them -/
def lookZ {κ : Type} [DecidableEq κ] (ks : List (κ × Vl)) (k : κ) : Option Vl := (ks.find? fun p => decide (p.1 = k)).map (·.2)
def putZ {κ : Type} [DecidableEq κ] (ks : List (κ × Vl)) (k : κ) (v : Vl) : List (κ × Vl) := if ks.any (fun p => decide (p.1 = k)) then ks.map fun p => if p.1 = k then (p.1, v) else p else ks ++ [(k, v)]
def keyD : Vl → Option Key
  | .int i => some (.inl i)
  | .str x => some (.inr x)
  | _ => none
def keysD : Vl → Option (List Key)
  | .tup xs => mapO keyD xs
  | _ => none
section
variable {K : PySem.W.Frag} {ρ : Lay} {H : Hp}
theorem rks_val : ∀ {ks : List (Key × Vl)} {vs : List (Key × V)} (k : Key), RKs K ρ H ks vs → (lookZ ks k = none ∧ valV vs k = none) ∨ ∃ x v, lookZ ks k = some x ∧ valV vs k = some v ∧ RV K ρ H x v
  | [], vs, k, h => by
    obtain rfl : vs = [] := h
    exact .inl ⟨rfl, rfl⟩
  | (j, x) :: ks, vs, k, ⟨v, r, e, h1, h2⟩ => by
    subst e
    by_cases q : j = k
    · exact .inr ⟨x, v, by simp [lookZ, q], by simp [valV, q], h1⟩
    · have ih := rks_val k h2
      have e1 : lookZ ((j, x) :: ks) k = lookZ ks k := by simp [lookZ, List.find?_cons, q]
      have e2 : valV ((j, v) :: r) k = valV r k := by simp [valV, List.find?_cons, q]
      rw [e1, e2]
      exact ih
theorem rks_any : ∀ {ks : List (Key × Vl)} {vs : List (Key × V)} (k : Key), RKs K ρ H ks vs → (ks.any fun p => decide (p.1 = k)) = vs.any fun p => decide (p.1 = k)
  | [], vs, k, h => by
    obtain rfl : vs = [] := h
    rfl
  | (j, x) :: ks, vs, k, ⟨v, r, e, h1, h2⟩ => by
    subst e
    rw [List.any_cons, List.any_cons, rks_any k h2]
theorem rks_app : ∀ {ks js : List (Key × Vl)} {vs ws : List (Key × V)}, RKs K ρ H ks vs → RKs K ρ H js ws → RKs K ρ H (ks ++ js) (vs ++ ws)
  | [], js, vs, ws, h, g => by
    obtain rfl : vs = [] := h
    exact g
  | (j, x) :: ks, js, vs, ws, ⟨v, r, e, h1, h2⟩, g => by
    subst e
    exact ⟨v, r ++ ws, rfl, h1, rks_app h2 g⟩
theorem rks_map1 {k : Key} {y : Vl} {w : V} (q : RV K ρ H y w) : ∀ {ks : List (Key × Vl)} {vs : List (Key × V)}, RKs K ρ H ks vs → RKs K ρ H (ks.map fun p => if p.1 = k then (p.1, y) else p) (vs.map fun p => if p.1 = k then (p.1, w) else p)
  | [], vs, h => by
    obtain rfl : vs = [] := h
    exact rfl
  | (j, x) :: ks, vs, ⟨v, r, e, h1, h2⟩ => by
    subst e
    have ih := rks_map1 (k := k) q h2
    by_cases c : j = k
    · simp only [List.map_cons, c, if_true]
      exact ⟨w, _, rfl, q, ih⟩
    · simp only [List.map_cons, c, if_false]
      exact ⟨v, _, rfl, h1, ih⟩
theorem rks_put {ks : List (Key × Vl)} {vs : List (Key × V)} (k : Key) {y : Vl} {w : V} (h : RKs K ρ H ks vs) (q : RV K ρ H y w) : RKs K ρ H (putZ ks k y) (putK vs k w) := by
  unfold putZ putK
  rw [rks_any k h]
  split
  · exact rks_map1 q h
  · exact rks_app h ⟨w, [], rfl, q, rfl⟩
theorem rks_len : ∀ {ks : List (Key × Vl)} {vs : List (Key × V)}, RKs K ρ H ks vs → ks.length = vs.length
  | [], vs, h => by
    obtain rfl : vs = [] := h
    rfl
  | (j, x) :: ks, vs, ⟨v, r, e, h1, h2⟩ => by
    subst e
    rw [List.length_cons, List.length_cons, rks_len h2]
theorem keyD_ok {x : Vl} {v : V} {k : Key} (h : keyD x = some k) (r : RV K ρ H x v) : v = kV k := by
  cases x <;> cases h <;> exact r
/-- the items of a dict -/
def dicD (m : Mem) : Vl → Option (List (Key × Vl))
  | .dic ks => some ks
  | .obj n => (match m[n]? with
    | some (.dic ks) => some ks
    | _ => none)
  | _ => none
theorem dicD_ok {m : Mem} {x : Vl} {v : V} {ks : List (Key × Vl)} (M : RM K ρ m H) (r : RV K ρ H x v) (h : dicD m x = some ks) : ∃ a vs, v = .ref a ∧ H a = some (.dK vs) ∧ RKs K ρ H ks vs := by
  cases x with
  | dic js =>
    cases h
    obtain ⟨a, vs, rfl, _, h1, h2⟩ := r
    exact ⟨a, vs, rfl, h1, h2⟩
  | obj n =>
    unfold dicD at h
    dsimp only at h
    split at h
    · rename_i js hj
      cases h
      obtain ⟨q, rfl, hq⟩ := r
      obtain ⟨vs, h1, h2⟩ := M.at_ _ _ _ hj hq
      exact ⟨q, vs, rfl, h1, h2⟩
    · cases h
  | _ => cases h
/-- a new cell -/
theorem new_cel {m : Mem} {o : HO} {c : Cell} {p : Addr} (M : RM K ρ m H) (hp : H p = none) (hk : cellK o = true) (hc : RC K ρ (upd H p o) p c) : RM K (ρ.cel p) (m ++ [c]) (upd H p o) ∧ Ext ρ H (ρ.cel p) (upd H p o) ∧ RV K (ρ.cel p) (upd H p o) (.obj m.length) (.ref p) := by
  have M1 := M.laid (o := o) hp
  refine ⟨M1.toCel (M.fresh hp) (M.freshz hp) upd_same hk hc, (ext_new hp).toCel ⟨M.fresh hp, M.freshz hp, hp⟩, p, rfl, ?_⟩
  show (ρ.c ++ [p])[m.length]? = some p
  rw [← M.len]
  simp
end
section
variable {X : Cx} {a b e : Expr} {pos pos' p : Pos} {da db : DE} {d : DA}
/-- {} -/
def dNewK : DE := fun _ m => some (.ok (.obj m.length), m ++ [.dic []])
theorem se_dnew : SE X (.Dict [] [] pos) dNewK := ⟨fun W tk => impPE pe_dnewK fun σ H Q ⟨ρ, env, m, z, m', s, e, pp⟩ => by
  cases e
  intro q hq
  obtain ⟨M, E, r⟩ := new_cel (o := .dK []) (c := .dic []) s.mem hq rfl ⟨[], upd_same, rfl⟩
  exact pp _ _ M E _ r⟩
/-- d[k] -/
def ixK : F2 := fun x y m => match dicD m x, keyD y with
  | some ks, some k => (match lookZ ks k with
    | some v => some (v, m)
    | none => none)
  | _, _ => none
theorem se_dget (hu : X.A.units + 1 < cLine) (ha : SE X a da) (hb : SE X b db) (hs : NoSl b) : SE X (.Subscript a b pos) (d2 ixK da db) := ⟨fun W tk => impPE (pe_dget hu (ha.run W tk) (hb.run W tk) hs) fun σ H Q ⟨ρ, env, m, z, m', s, e, p⟩ =>
  bindE s e p fun x m1 ρ1 H1 v s1 E1 r1 e1 p1 => bindE s1 e1 p1 fun y m2 ρ2 H2 u s2 E2 r2 e2 p2 => by
    obtain ⟨w, h1, rfl⟩ := okR_some e2
    unfold ixK at h1
    split at h1
    · rename_i ks k hk hy
      split at h1
      · rename_i vl hv
        cases h1
        obtain ⟨q, vs, rfl, h3, h4⟩ := dicD_ok s2.mem (r1.mono E2) hk
        rcases rks_val k h4 with ⟨h5, _⟩ | ⟨x', v', h5, h6, h7⟩
        · rw [hv] at h5
          cases h5
        · rw [hv] at h5
          cases h5
          exact ⟨q, v', rfl, .inl ⟨vs, k, .inl h3, keyD_ok hy r2, h6.symm⟩, p2 ρ2 H2 s2.mem .refl _ h7⟩
      · cases h1
    · cases h1⟩
/-- k in d -/
def inK (neg : Bool) : F2 := fun x y m => match keyD x, dicD m y with
  | some k, some ks => some (.bl (if neg then !(lookZ ks k).isSome else (lookZ ks k).isSome), m)
  | _, _ => none
theorem din_of {K : PySem.W.Frag} {ρ : Lay} {m : Mem} {H : Hp} {x y : Vl} {v u : V} {ks : List (Key × Vl)} {k : Key} (M : RM K ρ m H) (r1 : RV K ρ H x v) (r2 : RV K ρ H y u) (hk : keyD x = some k) (hd : dicD m y = some ks) : ∃ a o, u = .ref a ∧ DGet H a v o ∧ o.isSome = (lookZ ks k).isSome := by
  obtain ⟨q, vs, rfl, h3, h4⟩ := dicD_ok M r2 hd
  refine ⟨q, _, rfl, .inl ⟨vs, k, .inl h3, keyD_ok hk r1, rfl⟩, ?_⟩
  rcases rks_val k h4 with ⟨h5, h6⟩ | ⟨x', v', h5, h6, h7⟩ <;> rw [h5, h6] <;> rfl
theorem se_din (hu : X.A.units + 1 < cLine) (ha : SE X a da) (hb : SE X b db) (hm : behindInMarks .In b = false := by rfl) : SE X (.Compare a [.In] [b] pos) (d2 (inK false) da db) := ⟨fun W tk => impPE (pe_cmp (pc_din hu (ha.run W tk) (hb.run W tk)) hm) fun σ H Q ⟨ρ, env, m, z, m', s, e, p⟩ =>
  bindE s e p fun x m1 ρ1 H1 v s1 E1 r1 e1 p1 => bindE s1 e1 p1 fun y m2 ρ2 H2 u s2 E2 r2 e2 p2 => by
    obtain ⟨w, h1, rfl⟩ := okR_some e2
    unfold inK at h1
    split at h1
    · rename_i k ks hk hd
      cases h1
      obtain ⟨q, o, rfl, g, h3⟩ := din_of s2.mem (r1.mono E2) r2 hk hd
      exact ⟨q, o, rfl, g, p2 ρ2 H2 s2.mem .refl _ (by rw [h3]; rfl)⟩
    · cases h1⟩
theorem se_dnotin (hu : X.A.units + 1 < cLine) (ha : SE X a da) (hb : SE X b db) (hm : behindInMarks .NotIn b = false := by rfl) : SE X (.Compare a [.NotIn] [b] pos) (d2 (inK true) da db) := ⟨fun W tk => impPE (pe_cmp (pc_dnotin hu (ha.run W tk) (hb.run W tk)) hm) fun σ H Q ⟨ρ, env, m, z, m', s, e, p⟩ =>
  bindE s e p fun x m1 ρ1 H1 v s1 E1 r1 e1 p1 => bindE s1 e1 p1 fun y m2 ρ2 H2 u s2 E2 r2 e2 p2 => by
    obtain ⟨w, h1, rfl⟩ := okR_some e2
    unfold inK at h1
    split at h1
    · rename_i k ks hk hd
      cases h1
      obtain ⟨q, o, rfl, g, h3⟩ := din_of s2.mem (r1.mono E2) r2 hk hd
      exact ⟨q, o, rfl, g, p2 ρ2 H2 s2.mem .refl _ (by rw [h3]; rfl)⟩
    · cases h1⟩
theorem st_of_se {e0 : Expr} {op : CmpOp} {f : F2} (h : SE X (.Compare a [op] [b] pos) (d2 f da db)) (hm : behindInMarks op b = false) : ST X (.Compare a [op] [b] pos) (tB' (d2 f da db)) := st_cmpE h hm
/-- d[k] = v -/
def dPutK (do' dk dv : DE) : DS := fun env m => bindS (dv env m) env fun v m => bindS (do' env m) env fun x m => bindS (dk env m) env fun y m => match x, keyD y with
  | .obj n, some k => (match m[n]? with
    | some (.dic ks) => if ks.length < sizeLine then some (.nx env, m.set n (.dic (putZ ks k v))) else none
    | _ => none)
  | _, _ => none
theorem ss_dput {o i value : Expr} {do' dk dv : DE} (hu : X.A.units + 1 < cLine) (ho : SE X o do') (hi : SE X i dk) (hv : SE X value dv) (hs : swapsWith value (some (.Subscript o i pos')) pos.line X.env = pure false := by rfl) : SS X (.Assign [.Subscript o i pos'] value pos) (dPutK do' dk dv) := ⟨fun W tk =>
  impPS (ps_dput hu (ho.run W tk) (hi.run W tk) (hv.run W tk) hs) fun D σ H ⟨ρ, env, m, f, m', s, e, p⟩ =>
    sbE s e p fun v m1 ρ1 H1 vv s1 E1 r1 e1 p1 => sbE s1 e1 p1 fun x m2 ρ2 H2 u s2 E2 r2 e2 p2 => sbE s2 e2 p2 fun y m3 ρ3 H3 w s3 E3 r3 e3 p3 => by
      split at e3
      · rename_i n k hk
        split at e3
        · rename_i ks hn
          split at e3
          · rename_i hz
            cases e3
            obtain ⟨q, rfl, hq⟩ := r2.mono E3
            obtain ⟨vs, h1, h2⟩ := s3.mem.at_ _ _ _ hn hq
            have rv := (r1.mono E2).mono E3
            have E4 : Ext ρ3 H3 ρ3 (upd H3 q (.dK (putK vs k vv))) := ext_set (List.mem_of_getElem? hq)
            have M4 := s3.mem.put (o := .dK (putK vs k vv)) (c := .dic (putZ ks k v)) hq ⟨_, upd_same, rks_put k (RKs.mono E4 ks h2) (rv.mono E4)⟩
            exact ⟨q, _, rfl, .inl ⟨vs, k, h1, keyD_ok hk r3, by rw [← rks_len h2]; exact hz, rfl⟩, p3 ρ3 _ M4 E4 σ (s3.env.mono E4)⟩
          · cases e3
        · cases e3
      · cases e3⟩
/-- dict(d) -/
def copyK : FB := fun xs m => match xs with
  | [x] => (match dicD m x with
    | some ks => some (.obj m.length, m ++ [.dic ks])
    | none => none)
  | _ => none
theorem call_copy : CallR X (.type "dict") (fun xs H Q => ∃ a kvs, xs = [.ref a] ∧ H a = some (.dK kvs) ∧ ∀ p, H p = none → Q (.ref p) (upd H p (.dK kvs))) := by
  intro pins s σ H xs us Q I r hh
  obtain ⟨q, kvs, rfl, hd, k⟩ := hh
  obtain ⟨u, rfl, ru⟩ := vals1 r
  obtain rfl : u = Value.ref q := ru
  exact d_copyOf I (.inl hd) fun p' s' hp I' => ⟨.ref p', _, I', rfl, k p' hp⟩
theorem scf_copy {K : PySem.W.Frag} : SCF K copyK (fun xs H Q => ∃ a kvs, xs = [.ref a] ∧ H a = some (.dK kvs) ∧ ∀ p, H p = none → Q (.ref p) (upd H p (.dK kvs))) := fun ρ m H xs vs z m' Q M a e k => by
  unfold copyK at e
  split at e
  · rename_i x
    split at e
    · rename_i ks hk
      cases e
      obtain ⟨v, s, rfl, h1, h2⟩ := a
      subst h2
      obtain ⟨q, ws, rfl, h3, h4⟩ := dicD_ok M h1 hk
      refine ⟨q, ws, rfl, h3, fun p hp => ?_⟩
      obtain ⟨M', E', r'⟩ := new_cel (o := .dK ws) (c := .dic ks) M hp rfl ⟨ws, upd_same, RKs.mono (ext_new hp) ks h4⟩
      exact k _ _ _ M' E' r'
    · cases e
  · cases e
theorem se_dcopy {es : List Expr} (hg : Gl X "dict") (hm : X.mg "dict" = none) (ha : SA X (e :: es) d) (he : starEach (e :: es) X.env = (false, eval e X.env) :: starEach es X.env := by rfl) (hpl : (backTo pos (starEach es X.env)).any (·.1) = false := by rfl) : SE X (.Call (.Name "dict" p) (e :: es) [] pos) (dB copyK d) := se_callTy call_copy scf_copy hg hm (by decide +kernel) ha (by decide) (by decide) he hpl
end
end Z
namespace Z
open PySem PySem.Spec PyProof.Rows L2
theorem u1 {k : Nat} {A : Around} (hr : Room k A) : A.units + 1 < cLine := by have := hr.un; omega
/-! ### repr of a dict of flat values -/
def encP : Key → PyData
  | .inl i => .int i
  | .inr x => .str x
def flatP : Vl → Option PyData
  | .non => some .none
  | .bl b => some (.bool b)
  | .int i => some (.int i)
  | .str x => some (.str x)
  | _ => none
def flatPV : V → Option PyData
  | .non => some .none
  | .bl b => some (.bool b)
  | .int i => some (.int i)
  | .str x => some (.str x)
  | _ => none
def kvsP : List (Key × Vl) → Option (List (PyData × PyData))
  | [] => some []
  | (k, x) :: r => (match flatP x, kvsP r with
    | some d, some ds => some ((encP k, d) :: ds)
    | _, _ => none)
def kvsPV : List (Key × V) → Option (List (PyData × PyData))
  | [] => some []
  | (k, x) :: r => (match flatPV x, kvsPV r with
    | some d, some ds => some ((encP k, d) :: ds)
    | _, _ => none)
theorem flatP_ok {K : PySem.W.Frag} {ρ : Lay} {H : Hp} {x : Vl} {v : V} {d : PyData} (h : flatP x = some d) (r : RV K ρ H x v) : flatPV v = some d := by
  cases x <;> cases h <;> (rw [show v = _ from r]; rfl)
theorem kvsP_ok {K : PySem.W.Frag} {ρ : Lay} {H : Hp} : ∀ {ks : List (Key × Vl)} {vs : List (Key × V)} {D : List (PyData × PyData)}, kvsP ks = some D → RKs K ρ H ks vs → kvsPV vs = some D
  | [], vs, D, h, r => by
    obtain rfl : vs = [] := r
    exact h
  | (k, x) :: ks, vs, D, h, ⟨v, r, e, h1, h2⟩ => by
    subst e
    unfold kvsP at h
    split at h
    · rename_i d ds hd hds
      cases h
      unfold kvsPV
      rw [flatP_ok hd h1, kvsP_ok hds h2]
    · cases h
theorem flatPV_val {v : V} {u : Value} {d : PyData} (h : flatPV v = some d) (r : RelV v u) : PyProof.V.Flat u d := by
  cases v with
  | non => cases h; cases r; exact PyProof.V.Flat.none
  | bl b => cases h; cases r; exact fun _ => .bool b
  | int i => cases h; obtain ⟨t, rfl⟩ := r; exact PyProof.V.Flat.int i t
  | str x => cases h; obtain ⟨t, rfl⟩ := r; exact PyProof.V.Flat.str x t
  | _ => cases h
theorem flatPairs_of : ∀ {kvs : List (Key × V)} {vs : List (Key × Value)} {D : List (PyData × PyData)}, kvsPV kvs = some D → L2.KV kvs vs → PyProof.V.FlatPairs encP vs D
  | [], _, _, h, .nil => by
    cases h
    exact .nil
  | (k, v) :: kvs, _, D, h, .cons (b := (k', u)) hp r => by
    obtain ⟨e, ru⟩ := hp
    cases e
    unfold kvsPV at h
    split at h
    · rename_i d ds hd hds
      cases h
      exact .cons (flatPV_val hd ru) (flatPairs_of hds r)
    · cases h
theorem encP_reads {h : Heap} {P : Program} {w : World} (k : Key) (key : Value) (e : (L2.mixKind P w).is k key = true) : Reads h key (encP k) [] := by
  rcases keyIs_shape e with ⟨i, t, rfl, rfl⟩ | ⟨x, t, rfl, rfl⟩
  · exact .int i t
  · exact .str x t
def reprK : FB := fun xs m => match xs with
  | [x] => (match dicD m x with
    | some ks => (match kvsP ks with
      | some D => if (PyData.showable (.dict D) && decide ((PyData.dict D).depth ≤ 60) && decide ((PyData.dict D).shown.length ≤ sizeLine)) = true then some (.str (PyData.dict D).shown, m) else none
      | none => none)
    | none => none)
  | _ => none
theorem call_reprK {X : Cx} (hr : Room 0 X.A) : CallR X (.builtin "repr") (fun xs H Q => ∃ a kvs D, xs = [.ref a] ∧ H a = some (.dK kvs) ∧ kvsPV kvs = some D ∧ PyData.showable (.dict D) = true ∧ (PyData.dict D).depth ≤ 60 ∧ (PyData.dict D).shown.length ≤ sizeLine ∧ Q (.str (PyData.dict D).shown) H) := by
  intro pins s σ H xs us Q I r hh
  obtain ⟨a, kvs, D, rfl, hd, hD, h1, h3, h4, q⟩ := hh
  obtain ⟨u, rfl, ru⟩ := vals1 r
  obtain rfl : u = Value.ref a := ru
  obtain ⟨z, hsys, vs, rel, dd⟩ := dk_of I.hok hd
  have rd := PyProof.V.reads_dictOf (enc := encP) (fun k key e => encP_reads k key e) dd ((flatPairs_of hD rel).pairsRead _)
  have huu := hr.units
  refine repr_of_reads' rd h1 (fun _ hm => ?_) hr.gd (by omega) (fun _ _ e => e) (fun h' t tk hk => ⟨.str _, H, I.kept hk, ⟨_, rfl⟩, q⟩) h4
  rw [List.mem_singleton] at hm
  rw [← hm] at hsys
  simp at hsys
theorem scf_reprK {K : PySem.W.Frag} : SCF K reprK (fun xs H Q => ∃ a kvs D, xs = [.ref a] ∧ H a = some (.dK kvs) ∧ kvsPV kvs = some D ∧ PyData.showable (.dict D) = true ∧ (PyData.dict D).depth ≤ 60 ∧ (PyData.dict D).shown.length ≤ sizeLine ∧ Q (.str (PyData.dict D).shown) H) := fun ρ m H xs vs z m' Q M a e k => by
  unfold reprK at e
  split at e
  · rename_i x
    split at e
    · rename_i ks hk
      split at e
      · rename_i D hD
        split at e
        · rename_i c
          cases e
          simp only [Bool.and_eq_true, decide_eq_true_eq] at c
          obtain ⟨v, s, rfl, h1, h2⟩ := a
          subst h2
          obtain ⟨q, ws, rfl, h3, h4⟩ := dicD_ok M h1 hk
          exact ⟨q, ws, D, rfl, h3, kvsP_ok hD h4, c.1.1, c.1.2, c.2, k ρ H _ M .refl rfl⟩
        · cases e
      · cases e
    · cases e
  · cases e
section
variable {X : Cx} {e : Expr} {es : List Expr} {p pos apos : Pos} {de : DE} {d dk : DA}
theorem se_reprK (hr : Room 0 X.A) (hg : Gl X "repr") (hm : X.mg "repr" = none) (ha : SA X (e :: es) d) (he : starEach (e :: es) X.env = (false, eval e X.env) :: starEach es X.env := by rfl) (hpl : (backTo pos (starEach es X.env)).any (·.1) = false := by rfl) :
    SE X (.Call (.Name "repr" p) (e :: es) [] pos) (dB reprK d) := se_callB (call_reprK hr) scf_reprK hg hm (by decide +kernel) ha (by decide) (by decide) he hpl
/-! ### *xs in a display or a call -/
def dStar (de : DE) (d : DA) : DA := fun env m => bindR (de env m) fun x m => match seqD m x with
  | some xs => bindR (d env m) fun ys m => some (.ok (xs ++ ys), m)
  | none => none
theorem sa_star (he : SE X e de) (hr : SA X es d) (hs : starEach (.Starred e p :: es) X.env = (true, eval e X.env) :: starEach es X.env := by rfl) : SA X (.Starred e p :: es) (dStar de d) := ⟨fun W tk =>
  impPA (StX.pa_star (he.run W tk) (hr.run W tk) hs) fun σ H Q ⟨ρ, env, m, z, m', s, e, pp⟩ => bindE s e pp fun x m1 ρ1 H1 v s1 E1 r1 e1 p1 => by
    split at e1
    · rename_i xs hx
      obtain ⟨q, vs, rfl, h1, h2⟩ := seqD_ok s1.mem r1 hx
      refine ⟨q, vs, rfl, h1.symm, bindA s1 e1 p1 fun ys m2 ρ2 H2 ws s2 E2 r2 e2 p2 => ?_⟩
      cases e2
      exact p2 ρ2 H2 s2.mem .refl _ ((h2.mono E2).append r2)
    · cases e1⟩
end
section
variable {X : Cx} {o : Expr} {kws : List Keyword} {pos apos : Pos} {de : DE} {d dk : DA} {c mn : Str} {k n : Nat} {f : Addr} {ks : List Str} {gz : List Vl → List Vl → List Vl} {g : FD}
/-- o.m(k = e, ..) -/
theorem se_methK0 {pl : Sem Bool} (he : SE X o de) (hc : Cls X.K (He.ga X.K c)) (hm : Meth X.K (He.ga X.K c) mn f) (F : Fz X.prog X.w X.K X.mg X.base k f 1 ks gz g) (hr : Room k X.A) (hkw : SK X kws dk)
    (hall : (backToKw pos (keywordEach kws X.env)).all (·.1.isSome) = true := by rfl) (hks : (backToKw pos (keywordEach kws X.env)).filterMap (·.1) = ks := by rfl)
    (hpl : ((backTo pos (starEach [] X.env)).any (·.1) || (backToKw pos (keywordEach kws X.env)).any (·.1.isNone)) = false := by rfl)
    (ht : eval (.Call (.Attribute o mn apos) [] kws pos) X.env = (do
      let ov ← eval o X.env
      standAt apos.atName
      let (f, first) ← holding [ov] (getMethod ov mn pl)
      callWith pos f first (backTo pos (starEach [] X.env)) (backToKw pos (keywordEach kws X.env))) := by rfl) :
    SE X (.Call (.Attribute o mn apos) [] kws pos) (dMeth c mn 0 ks.length gz g de dNone dk) := ⟨fun W tk => ⟨fun pins s σ H Q I h => by
  obtain ⟨ρ, env, m, z, m', st, ee, pp⟩ := h
  have h' : rdE X.K W de σ H (fun v H1 => ∃ a dx gs, v = .ref a ∧ H1 a = some (.ins (He.ga X.K c) dx gs) ∧ gs.lookup mn = none ∧ rdA X.K W dk σ H1 fun zs H3 => ∃ ρ1 m1 xs ys, RM X.K ρ1 m1 H3 ∧ RVs X.K ρ1 H3 xs [.ref a] ∧ RVs X.K ρ1 H3 ys zs ∧ xs.length = 1 ∧ ys.length = ks.length ∧ g (gz xs ys) m1 = some (z, m') ∧ Po X.K ρ1 H3 (RV X.K) (fun c dd H' => W c dd σ H') Q z m') :=
    bindE st ee pp fun x m1 ρ1 H1 v s1 E1 r1 e1 p1 => by
      split at e1
      · rename_i c' fs hi
        split at e1
        · rename_i hcc
          rw [Bool.and_eq_true, decide_eq_true_eq, Option.isNone_iff_eq_none] at hcc
          obtain ⟨rfl, hl⟩ := hcc
          obtain ⟨a, dx, gs, rfl, h1, h2⟩ := insD_ok s1.mem r1 hi
          have e1' : bindR (dk env m1) (fun ys m => if ([] : List Vl).length = 0 ∧ ys.length = ks.length then g (gz [x] ys) m else none) = some (z, m') := e1
          refine ⟨a, dx, gs, rfl, h1, h2.none hl, bindA s1 e1' p1 fun ys m3 ρ3 H3 zs s3 E3 r3 e3 p3 => ?_⟩
          split at e3
          · rename_i hn
            exact ⟨ρ3, m3, [x], ys, s3.mem, ⟨_, _, rfl, r1.mono E3, rfl⟩, r3, rfl, hn.2, e3, p3⟩
          · cases e3
        · cases e1
      · cases e1
  refine PySem.W.methodCall_KW (pl := pl) (thn ((he.run W tk).run pins s σ H _ I h') fun u s1 ⟨x, H1, I1, rx, a, dx, fs, ex, ea, l, q⟩ => ?_) ht
  subst ex
  obtain rfl : u = Value.ref a := rx
  refine getmeth_ok I1 ea hc hm l ?_
  refine PySem.W.callWith_KW0 (first := [.ref a]) (h₀ := X.base) I.ok.mod.kin hm.kp hall (thn ((hkw.run W tk).run pos pins s1 σ H1 _ I1 q) fun ws s3 ⟨zs, H3, I3, rz, q3⟩ => ⟨I3.kIn, ?_⟩) hpl
  rw [hks]
  obtain ⟨ρ1, m1, xs, ys, M1, rx, ry, hn, hy, e1, p1⟩ := q3
  exact F.run hr tk (us := [.ref a]) (vs := [.ref a]) I3 (.cons rfl .nil) rz M1 rx ry hn hy e1 p1⟩⟩
end
/-! ### what these compute -/
@[simp] theorem dStar_ap {de : DE} {d : DA} {env : Ev} {m : Mem} : dStar de d env m = bindR (de env m) fun x m => match seqD m x with
  | some xs => bindR (d env m) fun ys m => some (.ok (xs ++ ys), m)
  | none => none := rfl
@[simp] theorem dNewK_ap {env : Ev} {m : Mem} : dNewK env m = some (.ok (.obj m.length), m ++ [.dic []]) := rfl
theorem dicD_obj {m : Mem} {n : Nat} {ks : List (Key × Vl)} (h : m[n]? = some (.dic ks)) : dicD m (.obj n) = some ks := by
  unfold dicD
  simp only [h]
theorem ixK_obj {m : Mem} {n : Nat} {ks : List (Key × Vl)} {y v : Vl} {k : Key} (h : m[n]? = some (.dic ks)) (hk : keyD y = some k) (hv : lookZ ks k = some v) : ixK (.obj n) y m = some (v, m) := by
  unfold ixK
  simp only [dicD_obj h, hk, hv]
theorem inK_obj {neg : Bool} {m : Mem} {n : Nat} {ks : List (Key × Vl)} {y : Vl} {k : Key} (h : m[n]? = some (.dic ks)) (hk : keyD y = some k) : inK neg y (.obj n) m = some (.bl (if neg then !(lookZ ks k).isSome else (lookZ ks k).isSome), m) := by
  unfold inK
  simp only [dicD_obj h, hk]
@[simp] theorem dPutK_ap {do' dk dv : DE} {env : Ev} {m : Mem} : dPutK do' dk dv env m = bindS (dv env m) env fun v m => bindS (do' env m) env fun x m => bindS (dk env m) env fun y m => match x, keyD y with
  | .obj n, some k => (match m[n]? with
    | some (.dic ks) => if ks.length < sizeLine then some (.nx env, m.set n (.dic (putZ ks k v))) else none
    | _ => none)
  | _, _ => none := rfl
end Z
namespace Z
open PySem PySem.Spec PyProof.Rows L2
/-! ### {k: v, ..} -/
def pairsD : List (DE × DE) → Ev → Mem → Option (R (List (Key × Vl)) × Mem)
  | [], _, m => some (.ok [], m)
  | (dk, dv) :: r, env, m => bindR (dk env m) fun k m => bindR (dv env m) fun v m => bindR (pairsD r env m) fun ps m => match keyD k with
    | some k => some (.ok ((k, v) :: ps), m)
    | none => none
def mergeZ (ks more : List (Key × Vl)) : List (Key × Vl) := more.foldl (fun acc p => putZ acc p.1 p.2) ks
theorem rks_merge {K : PySem.W.Frag} {ρ : Lay} {H : Hp} : ∀ {more : List (Key × Vl)} {mv : List (Key × V)} {ks : List (Key × Vl)} {vs : List (Key × V)}, RKs K ρ H more mv → RKs K ρ H ks vs → RKs K ρ H (mergeZ ks more) (mergeK vs mv)
  | [], mv, ks, vs, h, g => by
    obtain rfl : mv = [] := h
    exact g
  | (k, x) :: more, mv, ks, vs, ⟨v, r, e, h1, h2⟩, g => by
    subst e
    show RKs K ρ H (mergeZ (putZ ks k x) more) (mergeK (putK vs k v) r)
    exact rks_merge h2 (rks_put k g h1)
structure SPs (X : Cx) (pos : Pos) (keys : List (Option Expr)) (values : List Expr) (ds : List (DE × DE)) : Prop where
  run : ∀ W, Takes X W → PPs X pos keys values (ds.map fun p => (rdE X.K W p.1, rdE X.K W p.2))
section
variable {X : Cx} {pos : Pos} {k v : Expr} {ks : List (Option Expr)} {vs : List Expr} {dk dv : DE} {ds : List (DE × DE)}
theorem sps_nil : SPs X pos [] [] [] := ⟨fun W tk => pps_nil⟩
theorem sps_cons (hk : SE X k dk) (hv : SE X v dv) (hr : SPs X pos ks vs ds) : SPs X pos (some k :: ks) (v :: vs) ((dk, dv) :: ds) := ⟨fun W tk => pps_cons (hk.run W tk) (hv.run W tk) (hr.run W tk)⟩
theorem tPairs_of {K : PySem.W.Frag} {W : WX} {σ : L2.St} : ∀ {ds : List (DE × DE)} {ρ : Lay} {env : Ev} {m m' : Mem} {H : Hp} {r : R (List (Key × Vl))} {Q : List (V × V) → Hp → Prop}, S K ρ env m σ H → pairsD ds env m = some (r, m') →
    (∀ ρ' H', S K ρ' env m' σ H' → Ext ρ H ρ' H' → match r with
      | .ok ps => ∀ mv, RKs K ρ' H' ps mv → Q (mv.map fun p => (kV p.1, p.2)) H'
      | .ex c fs => ∀ dd, XD K ρ' H' dd fs → W (.ref (He.ga K c)) dd σ H') → tPairs (ds.map fun p => (rdE K W p.1, rdE K W p.2)) σ H Q
  | [], ρ, env, m, m', H, r, Q, s, e, p => by
    cases e
    exact p ρ H s .refl [] rfl
  | (dk, dv) :: ds, ρ, env, m, m', H, r, Q, s, e, p => by
    unfold pairsD at e
    show rdE K W dk σ H fun x H1 => rdE K W dv σ H1 fun y H2 => tPairs (ds.map fun p => (rdE K W p.1, rdE K W p.2)) σ H2 fun ps H3 => Q ((x, y) :: ps) H3
    unfold bindR at e
    split at e
    · cases e
    · rename_i x m1 h0
      refine goE s h0 fun ρ1 H1 vk s1 E1 r1 => ?_
      dsimp only at e
      split at e
      · cases e
      · rename_i y m2 h1
        refine goE s1 h1 fun ρ2 H2 vv s2 E2 r2 => ?_
        split at e
        · cases e
        · rename_i ps m3 h2
          split at e
          · rename_i kk hk
            cases e
            refine tPairs_of s2 h2 fun ρ3 H3 s3 E3 => ?_
            have q := p ρ3 H3 s3 ((E1.trans E2).trans E3)
            intro mv rmv
            have e1 := keyD_ok hk r1
            subst e1
            exact q ((kk, vv) :: mv) ⟨vv, mv, rfl, r2.mono E3, rmv⟩
          · cases e
        · rename_i c fs m3 h2
          cases e
          refine tPairs_of s2 h2 fun ρ3 H3 s3 E3 => ?_
          exact p ρ3 H3 s3 ((E1.trans E2).trans E3)
      · rename_i c fs m2 h1
        cases e
        exact exE s1 h1 fun ρ2 H2 dd s2 E2 x => p ρ2 H2 s2 (E1.trans E2) dd x
    · rename_i c fs m1 h0
      cases e
      exact exE s h0 fun ρ1 H1 dd s1 E1 x => p ρ1 H1 s1 E1 dd x
def dDisp (ds : List (DE × DE)) : DE := fun env m => bindR (pairsD ds env (m ++ [.dic []])) fun ps m' => if ps.length ≤ 15 then (match m'[m.length]? with
  | some (.dic []) => some (.ok (.obj m.length), m'.set m.length (.dic (mergeZ [] ps)))
  | _ => none) else none
theorem se_disp (h : SPs X pos ks vs ds) (hall : ks.all (·.isSome) = true) (hl : ks.length = vs.length) (h0 : ks ≠ []) (h15 : ks.length ≤ 15) : SE X (.Dict ks vs pos) (dDisp ds) := ⟨fun W tk =>
  impPE (pe_disp (h.run W tk) hall hl h0 h15) fun σ H Q ⟨ρ, env, m, z, m', s, e, pp⟩ q hq => by
    obtain ⟨M1, E1, r1⟩ := new_cel (o := .dK []) (c := .dic []) s.mem hq rfl ⟨[], upd_same, rfl⟩
    have s1 : S X.K (ρ.cel q) env (m ++ [.dic []]) σ (upd H q (.dK [])) := s.to E1 M1
    unfold dDisp bindR at e
    split at e
    · cases e
    · rename_i ps m2 h0
      dsimp only at e
      split at e
      · rename_i hz
        split at e
        · rename_i hm
          cases e
          refine tPairs_of s1 h0 fun ρ2 H2 s2 E2 => ?_
          intro mv rmv
          obtain ⟨q', hq', hc⟩ := r1.mono E2
          cases hq'
          obtain ⟨us, h1, h2⟩ := s2.mem.at_ _ _ _ hm hc
          obtain rfl : us = [] := h2
          have hl2 := rks_len rmv
          have E3 : Ext ρ2 H2 ρ2 (upd H2 q (.dK (mergeK [] mv))) := ext_set (List.mem_of_getElem? hc)
          have M3 := s2.mem.put (o := .dK (mergeK [] mv)) (c := .dic (mergeZ [] ps)) hc ⟨_, upd_same, RKs.mono E3 _ (rks_merge rmv (show RKs X.K ρ2 H2 [] [] from rfl))⟩
          exact ⟨h1, mv, rfl, by rw [← hl2]; exact hz, pp ρ2 _ M3 ((E1.trans E2).trans E3) _ ⟨q, rfl, hc⟩⟩
        · cases e
      · cases e
    · rename_i c fs m2 h0
      cases e
      exact tPairs_of s1 h0 fun ρ2 H2 s2 E2 dd x => pp ρ2 H2 s2.mem (E1.trans E2) dd x⟩
end
@[simp] theorem dDisp_ap {ds : List (DE × DE)} {env : Ev} {m : Mem} : dDisp ds env m = bindR (pairsD ds env (m ++ [.dic []])) fun ps m' => if ps.length ≤ 15 then (match m'[m.length]? with
  | some (.dic []) => some (.ok (.obj m.length), m'.set m.length (.dic (mergeZ [] ps)))
  | _ => none) else none := rfl
@[simp] theorem pairsD_nil {env : Ev} {m : Mem} : pairsD [] env m = some (.ok [], m) := rfl
@[simp] theorem pairsD_cons {dk dv : DE} {r : List (DE × DE)} {env : Ev} {m : Mem} : pairsD ((dk, dv) :: r) env m = bindR (dk env m) fun k m => bindR (dv env m) fun v m => bindR (pairsD r env m) fun ps m => match keyD k with
    | some k => some (.ok ((k, v) :: ps), m)
    | none => none := rfl
end Z
namespace Z
open PySem PySem.Spec PyProof.Rows L2
/-! ### defs with a star parameter and keyword-only ones -/
/-- t looks the names up in the dict at D, one behind another, and goes on as r -/
def KwS {α : Type} (D : Addr) : List (Str × Value) → Sem α → Sem α → Prop
  | [], t, r => t = r
  | q :: l, t, r => ∃ (β γ : Type) (k1 : Option Value → Sem β) (k2 : β → Sem γ) (k3 : γ → Sem α) (a : β), t = ((nsGet D q.1 >>= k1) >>= k2) >>= k3 ∧ k1 (some q.2) = pure a ∧ KwS D l (k2 a >>= k3) r
theorem KwS.wp {α : Type} {K : PySem.W.Frag} {M : Model} {A : Around} {Q : α → Shared → Prop} {E : Value → Shared → Prop} {s : Shared} {D : Addr} (X : K.In s.heap) : ∀ {l : List (Str × Value)} {t r : Sem α}, (∀ q ∈ l, PySem.W.nsIn K D q.1 = some (some q.2)) → KwS D l t r → wpAny M A r Q E s → wpAny M A t Q E s
  | [], t, r, _, e, h => by
    have e : t = r := e
    rw [e]
    exact h
  | q :: l, t, r, hl, e, h => by
    obtain ⟨β, γ, k1, k2, k3, a, e1, e2, e3⟩ := e
    have l1 : PySem.W.Looks M s.heap (nsGet D q.1 >>= k1) a := (PySem.W.looks_nsIn X (hl q (List.mem_cons_self ..))).andThen (PySem.W.Looks.of_pure e2)
    rw [e1, bind_assoc]
    exact wpAny_bind (l1 A _ E s (fun _ _ h => h) (KwS.wp X (fun p hp => hl p (List.mem_cons_of_mem _ hp)) e3 h))
theorem KwS.nil {α : Type} {D : Addr} {t r : Sem α} (h : t = r) : KwS D [] t r := h
/-- the def at f: np parameters, what is left over as a tuple, the keywords ks -/
structure Sz (P : Program) (w : World) (K : PySem.W.Frag) (mg : Str → Option Value) (base : Heap) (k : Nat) (f : Addr) (np : Nat) (ks : List Str) (gz : List Vl → List Vl → List Vl) (g : FD) : Prop where
  run : ∀ (A : Around) (outer : List Env) (s : Shared) (H : Hp) (us ws : List Value) (vs zs : List V) (ρ : Lay) (m m' : Mem) (xs ys : List Vl) (r : R Vl) (Q : VK) (E : XK), Room k A → Env0 P w K mg base A outer s H → Vals vs us → Vals zs ws → RM K ρ m H → RVs K ρ H xs vs → RVs K ρ H ys zs → np ≤ xs.length → xs.length ≤ sizeLine → ys.length = ks.length →
    g (gz xs ys) m = some (r, m') → Po K ρ H (RV K) (fun c dd H' => E c dd H') Q r m' → codeAny (model P w) A (.call (.ref f) ⟨us, ks.zip ws⟩) (CR (L2.CX P w) outer P w H s Q E) s
theorem Sz.mono {P : Program} {w : World} {K : PySem.W.Frag} {mg : Str → Option Value} {base : Heap} {j k : Nat} {f : Addr} {np : Nat} {ks : List Str} {gz : List Vl → List Vl → List Vl} {g : FD} (F : Sz P w K mg base k f np ks gz g) (h : k ≤ j) : Sz P w K mg base j f np ks gz g :=
  ⟨fun A outer s H us ws vs zs ρ m m' xs ys r Q E hr => F.run A outer s H us ws vs zs ρ m m' xs ys r Q E (hr.mono h)⟩
section
variable {P : Program} {w : World} {K : PySem.W.Frag} {mg : Str → Option Value} {base : Heap} {x qual : Str} {params : Arguments} {body : List Stmt} {scope : Scope} {kws : List (Str × V)} {f : Addr} {fd : FuncData} {N ps : List Str} {pv : Str} {k : Nat} {d : DS}
/-- what a star def's arguments are -/
def starZ (np : Nat) (S : List Src) (mz : List Vl) (xs ys : List Vl) : List Vl := pickL S (xs.take np) [] mz ys ++ [.tup (xs.drop np)]
theorem sz_core {oc dV kV doc pm cdv ct : Value} {an od : Option Addr} {osl : Array (Option Value)} (lk : K.lookup f = some ⟨oc, od, .func (PySem.W.fnOf x qual params body scope dV kV doc pm an cdv ct), osl⟩) (hcd : PySem.W.codeIn K cdv qual = true) (S : FnScope N (ps ++ [pv]) scope)
    (hb : ∀ (A : Around) (outer : List Env) (s : Shared) (H : Hp) (E : XK), Room k (A.deeper (envOfC qual scope s.heap.objs.size f cdv)) → SSs (cxOf (L2.CX P w) P w K mg base N qual scope f cdv A outer s H E) body d)
    (np : Nat) (ks : List Str) (Sr : List Src) (mz : List Vl) (mv : List Value) (mV : List V) (rk : Vals mV mv) (hz : ∀ ρ H, RVs K ρ H mz mV)
    (hbind : ∀ (M : Model) (A : Around) (us rest ws : List Value) (Q : List (Str × Value) → Shared → Prop) (E : Value → Shared → Prop) (s : Shared), us.length = np → ws.length = ks.length → K.In s.heap → wpAny M A (newTuple rest >>= fun t => pure (ps.zip (pickL Sr us [] mv ws) ++ [(pv, t)])) Q E s →
      wpAny M A (bindArgs (PySem.W.fnOf x qual params body scope dV kV doc pm an cdv ct) ⟨us ++ rest, ks.zip ws⟩) Q E s)
    (hl : Sr.length = ps.length) (hS : Sr.all (Src.lt np 0 mV.length ks.length) = true) : Sz P w K mg base (k + 1) f np ks (starZ np Sr mz) (bodyD N.length d) := ⟨fun A outer s H us ws vs zs ρ m m' xs ys r Q E hr e0 a b Mm ra rb hn hz2 hk e p => by
  have hxv : xs.length = vs.length := ra.length
  have hvu : vs.length = us.length := a.length
  have hnil : H s.heap.objs.size = Option.none := e0.hok.fresh (Nat.le_refl _)
  have u1l : (us.take np).length = np := by rw [List.length_take]; omega
  have v1l : (vs.take np).length = np := by rw [List.length_take]; omega
  have wl : ws.length = ks.length := by rw [← b.length, ← rb.length]; exact hk
  have zl : zs.length = ks.length := by rw [← rb.length]; exact hk
  have pl : (pickL Sr (vs.take np) [] mV zs).length = ps.length := by
    rw [← hl]
    refine pick_len ?_
    rw [v1l, zl]
    exact hS
  have puv : Vals (pickL Sr (vs.take np) [] mV zs) (pickL Sr (us.take np) [] mv ws) := pick_vals (a.take np) .nil rk b Sr
  have old : K.In s.heap := e0.mod.kin.keeps fun b o e => (e0.bs b o e).1
  have eu : us.take np ++ us.drop np = us := List.take_append_drop np us
  have hd : (us.drop np).length ≤ sizeLine := by rw [List.length_drop]; omega
  have hdv : (vs.drop np).length ≤ sizeLine := by rw [List.length_drop]; omega
  have run := StX.run_bnd (CX := L2.CX P w) (mg := mg) (base := base) (Q := Q) (E := E) (args := ⟨us, ks.zip ws⟩) (G := fun xs' H2 => ∃ p, H p = Option.none ∧ xs' = pickL Sr (vs.take np) [] mV zs ++ [V.ref p] ∧ H2 = upd H p (.tup (vs.drop np))) lk hcd S hr.toRoom e0 (fun A' Ex Q' h => by
    have z := hbind (model P w) A' (us.take np) (us.drop np) ws Q' Ex s u1l wl old (wpAny_bind (wpAny_newTuple (wpAny_pure (by
      have new : ObjOk P w (upd H s.heap.objs.size (.tup (vs.drop np))) (s.heap.push ({ cls := .type "tuple", data := .seq (us.drop np).toArray } : Obj)) s.heap.objs.size (.tup (vs.drop np)) := ⟨hdv, us.drop np, a.drop np, ⟨_, Heap.get?_push_size _ rfl, rfl, _, rfl⟩⟩
      have un := StX.un_laid (fs := frs outer) (s := s) (o := ({ cls := .type "tuple", data := .seq (us.drop np).toArray } : Obj)) (u := .tup (vs.drop np)) hnil
      have z := h _ _ (pickL Sr (vs.take np) [] mV zs ++ [V.ref s.heap.objs.size]) (pickL Sr (us.take np) [] mv ws ++ [Value.ref s.heap.objs.size]) (StX.env0_laid e0 new) un rfl (fun e s' => StX.cxUp outer s H _ _ E e s' un (fun b o q => Heap.get?_push_of_some _ q) rfl) (puv.append (.cons rfl .nil))
        (by rw [List.length_append, List.length_append, pl] <;> rfl) ⟨_, hnil, rfl, rfl⟩
      rw [List.zip_append (by rw [← puv.length, pl])] at z
      exact z)) hd))
    rw [eu] at z
    exact z) (fun s2 H2 vs2 ⟨p', hp', ex, eH⟩ hr' => by
    subst ex eH
    refine ⟨_, (hb A outer s2 _ E ⟨hr', hr.gd⟩).run (fun cls dd _ H' => E cls dd H') (takes_of rfl rfl rfl rfl), ?_⟩
    have M1 := Mm.laid (o := .tup (vs.drop np)) hp'
    have E1 := ext_new (ρ := ρ) (o := HO.tup (vs.drop np)) hp'
    have rx : RVs K ρ (upd H p' (.tup (vs.drop np))) (starZ np Sr mz xs ys) (pickL Sr (vs.take np) [] mV zs ++ [V.ref p']) := by
      refine RVs.append ?_ ⟨_, _, rfl, new_tup Mm hp' (ra.drop np), rfl⟩
      exact pick_rvs ((ra.mono E1).take np) (show RVs K ρ _ [] [] from rfl) (hz ρ _) (rb.mono E1) Sr
    have p1 := p.mono E1
    unfold bodyD at e
    split at e
    · rename_i v m2 h1
      cases e
      exact ⟨ρ, _, m, _, _, ⟨M1, re_start rx⟩, h1, fun ρ' H' M' E' v' rv => p1 ρ' H' M' E' v' rv⟩
    · rename_i env m2 h1
      cases e
      exact ⟨ρ, _, m, _, _, ⟨M1, re_start rx⟩, h1, fun ρ' H' M' E' σ' rv => p1 ρ' H' M' E' .non rfl⟩
    · rename_i c fs env m2 h1
      cases e
      exact ⟨ρ, _, m, _, _, ⟨M1, re_start rx⟩, h1, fun ρ' H' M' E' σ' rv dd x => p1 ρ' H' M' E' dd x⟩
    · cases e)
  exact run⟩
/-- no keyword-only defaults are asked for -/
theorem sz1 (F : FunD K x qual params body scope [] kws f fd) (S : FnScope N (ps ++ [pv]) scope)
    (hb : ∀ (cdv : Value) (A : Around) (outer : List Env) (s : Shared) (H : Hp) (E : XK), Room k (A.deeper (envOfC qual scope s.heap.objs.size f cdv)) → SSs (cxOf (L2.CX P w) P w K mg base N qual scope f cdv A outer s H E) body d)
    (np : Nat) (ks : List Str) (Sr : List Src)
    (h : ∀ (kV doc pm : Value) (an : Option Addr) (cdv ct : Value) (us rest ws : List Value), us.length = np → ws.length = ks.length → bindArgs (PySem.W.fnOf x qual params body scope .none kV doc pm an cdv ct) ⟨us ++ rest, ks.zip ws⟩ = (newTuple rest >>= fun t => pure (ps.zip (pickL Sr us [] [] ws) ++ [(pv, t)])))
    (hl : Sr.length = ps.length := by rfl) (hS : Sr.all (Src.lt np 0 0 ks.length) = true := by rfl) : Sz P w K mg base (k + 1) f np ks (starZ np Sr []) (bodyD N.length d) := by
  obtain ⟨oc, od, dV, kV, doc, pm, an, cdv, ct, osl, rfl, lk, hcd, hD, hK⟩ := F.ex
  rcases hD with ⟨_, rfl⟩ | ⟨e, _⟩
  · exact sz_core lk hcd S (hb cdv) np ks Sr [] [] [] .nil (fun ρ H => rfl) (fun M A us rest ws Q E s l1 l2 _ z => by
      rw [h kV doc pm an cdv ct us rest ws l1 l2]
      exact z) hl hS
  · exact absurd rfl e
/-- some are -/
theorem sz3 (F : FunD K x qual params body scope [] kws f fd) (S : FnScope N (ps ++ [pv]) scope)
    (hb : ∀ (cdv : Value) (A : Around) (outer : List Env) (s : Shared) (H : Hp) (E : XK), Room k (A.deeper (envOfC qual scope s.heap.objs.size f cdv)) → SSs (cxOf (L2.CX P w) P w K mg base N qual scope f cdv A outer s H E) body d)
    (np : Nat) (ks : List Str) (ms : List (Str × V)) (Sr : List Src) (mz : List Vl) (hz : ∀ ρ H, RVs K ρ H mz (ms.map (·.2))) (hk : kws ≠ []) (hms : ∀ q ∈ ms, q ∈ kws)
    (h : ∀ (D : Addr) (doc pm : Value) (an : Option Addr) (cdv ct : Value) (us rest mv ws : List Value), us.length = np → mv.length = ms.length → ws.length = ks.length →
      KwS D ((ms.map (·.1)).zip mv) (bindArgs (PySem.W.fnOf x qual params body scope .none (.ref D) doc pm an cdv ct) ⟨us ++ rest, ks.zip ws⟩) (newTuple rest >>= fun t => pure (ps.zip (pickL Sr us [] mv ws) ++ [(pv, t)])))
    (hl : Sr.length = ps.length) (hS : Sr.all (Src.lt np 0 ms.length ks.length) = true) : Sz P w K mg base (k + 1) f np ks (starZ np Sr mz) (bodyD N.length d) := by
  obtain ⟨oc, od, dV, kV, doc, pm, an, cdv, ct, osl, rfl, lk, hcd, hD, hK⟩ := F.ex
  rcases hD with ⟨_, rfl⟩ | ⟨e, _⟩
  · rcases hK with e | ⟨D, rfl, hq⟩
    · exact absurd e hk
    · obtain ⟨mv, hl2, rk, hks⟩ := kwd_vals (ms := ms) fun q hm => hq q (hms q hm)
      exact sz_core lk hcd S (hb cdv) np ks Sr mz mv (ms.map (·.2)) rk hz (fun M A us rest ws Q E s l1 l2 X z => KwS.wp X hks (h D doc pm an cdv ct us rest mv ws l1 hl2 l2) z) hl (by rw [List.length_map]; exact hS)
  · exact absurd rfl e
end
/-! ### a new instance of a class whose __init__ has a star -/
section
variable {X : Cx} {c : Str} {k np n : Nat} {f : Addr} {ks : List Str} {gz : List Vl → List Vl → List Vl} {g : FD}
theorem Sz.make {W : WX} (M : Mk X.K (He.ga X.K c) f) (F : Sz X.prog X.w X.K X.mg X.base k f np ks gz g) (hr : Room (k + 1) X.A) (tk : Takes X W) {pins : List (Addr × Obj)} {σ : L2.St} {H : Hp} {s : Shared} {Q : VK} {us ws : List Value} {vs zs : List V} {ρ : Lay} {m m' : Mem} {xs ys : List Vl} {r : R Vl}
    (I : Inv X pins σ H s) (a : Vals vs us) (b : Vals zs ws) (Mm : RM X.K ρ m H) (ra : RVs X.K ρ H xs vs) (rb : RVs X.K ρ H ys zs) (hn : np ≤ xs.length + 1) (hz : xs.length < sizeLine) (hk : ys.length = ks.length) (e : initD c gz g xs ys m = some (r, m'))
    (p : Po X.K ρ H (RV X.K) (fun c dd H' => W c dd σ H') Q r m') : wpAny (model X.prog X.w) X.A (call (.ref (He.ga X.K c)) us (ks.zip ws)) (EP X pins σ Q) X.xe s := by
  have I2 := Inv.made (C := He.ga X.K c) I
  have f1 : H s.heap.objs.size = none := I.hok.fresh (Nat.le_refl _)
  have f2 : H (s.heap.objs.size + 1) = none := I.hok.fresh (Nat.le_succ _)
  have M1 := Mm.laid (o := .own (s.heap.objs.size + 1)) f1
  have ne1 : s.heap.objs.size + 1 ≠ s.heap.objs.size := Nat.succ_ne_self _
  have f3 : (upd H s.heap.objs.size (.own (s.heap.objs.size + 1))) (s.heap.objs.size + 1) = none := by rw [upd_ne ne1]; exact f2
  have M2 := M1.laid (o := .ins (He.ga X.K c) s.heap.objs.size []) f3
  have w1 := M1.fresh f3
  have w2 := M1.freshz f3
  have E0 : Ext ρ H ρ (upd (upd H s.heap.objs.size (.own (s.heap.objs.size + 1))) (s.heap.objs.size + 1) (.ins (He.ga X.K c) s.heap.objs.size [])) := (ext_new f1).trans (ext_new f3)
  have E3 := E0.toCel ⟨w1, w2, f2⟩
  have M3 := M2.toCel (c := .ins c []) w1 w2 upd_same rfl ⟨s.heap.objs.size, [], upd_same, rfl⟩
  have ro : RV X.K (ρ.cel (s.heap.objs.size + 1)) (upd (upd H s.heap.objs.size (.own (s.heap.objs.size + 1))) (s.heap.objs.size + 1) (.ins (He.ga X.K c) s.heap.objs.size [])) (.obj m.length) (.ref (s.heap.objs.size + 1)) := ⟨_, rfl, by
    show (ρ.c ++ [s.heap.objs.size + 1])[m.length]? = _
    rw [← Mm.len]
    simp⟩
  have rx : RVs X.K (ρ.cel (s.heap.objs.size + 1)) (upd (upd H s.heap.objs.size (.own (s.heap.objs.size + 1))) (s.heap.objs.size + 1) (.ins (He.ga X.K c) s.heap.objs.size [])) (.obj m.length :: xs) (.ref (s.heap.objs.size + 1) :: vs) := ⟨_, _, rfl, ro, ra.mono E3⟩
  have r1 : Vals (V.ref (s.heap.objs.size + 1) :: vs) (Value.ref (s.heap.objs.size + 1) :: us) := .cons rfl a
  have hpost : ∃ r0, g (gz (.obj m.length :: xs) ys) (m ++ [.ins c []]) = some (r0, m') ∧ Po X.K (ρ.cel (s.heap.objs.size + 1)) (upd (upd H s.heap.objs.size (.own (s.heap.objs.size + 1))) (s.heap.objs.size + 1) (.ins (He.ga X.K c) s.heap.objs.size [])) (RV X.K) (fun c dd H' => W c dd σ H') (fun v H2 => v = .non ∧ Q (.ref (s.heap.objs.size + 1)) H2) r0 m' := by
    unfold initD at e
    split at e
    · rename_i m2 h4
      cases e
      refine ⟨_, h4, fun ρ' H' M' E' v rv => ⟨rv, p ρ' H' M' (E3.trans E') _ (ro.mono E')⟩⟩
    · rename_i c' fs m2 h4
      cases e
      exact ⟨_, h4, fun ρ' H' M' E' dd x => p ρ' H' M' (E3.trans E') dd x⟩
    · cases e
  obtain ⟨r0, hg, hp⟩ := hpost
  refine wpAny_call (make_map (f := f) I.kIn M.makes M.init (beq_iff_eq.mp M.fn) (codeAny_mono (F.run _ X.stack _ _ (Value.ref (s.heap.objs.size + 1) :: us) ws _ zs _ _ m' _ ys r0 _ (fun c dd H' => W c dd σ H') (hr.make _ us (ks.zip ws))
    (I2.env0.make _ us (ks.zip ws)) r1 b M3 rx (rb.mono E3) (by rw [List.length_cons]; exact hn) (by rw [List.length_cons]; exact hz) hk hg hp) fun r s' hq' => ?_))
  cases r with
  | error e => exact tk e s' (XE.of_call I2 (fun _ _ _ h => h) hq')
  | ok fl =>
    cases fl with
    | ret u =>
      obtain ⟨v, H', I3, rv, ev, q3⟩ := I2.after hq'
      subst ev
      exact ⟨rv, ⟨V.ref (s.heap.objs.size + 1), H', I3, rfl, q3⟩⟩
    | next => exact False.elim hq'
    | brk => exact False.elim hq'
    | cont => exact False.elim hq'
theorem Sz.mruns (M : Mk X.K (He.ga X.K c) f) (F : Sz X.prog X.w X.K X.mg X.base k f np ks gz g) (hr : Room (k + 1) X.A) (hn : np ≤ n + 1 := by decide) (hz : n < sizeLine := by decide +kernel) : Z.Runs X (He.ga X.K c) n ks (initD c gz g) := fun {W} tk {pins σ H s Q us ws vs zs ρ m m' xs ys r} I a b Mm ra rb h1 h2 e p => Sz.make M F hr tk I a b Mm ra rb (by rw [h1]; exact hn) (by rw [h1]; exact hz) h2 e p
end
end Z
namespace Z
open PySem PySem.Spec PyProof.Rows L2
/-! ### calls with stars and keywords -/
section
variable {M : Model} {A : Around} {E : Value → Shared → Prop} {s : Shared}
theorem args_lone {f : Value} {x : Sem Value} {pos : Pos} {kws : List (Option Str × Sem Value)} {Q : Args → Shared → Prop} (hall : kws.all (·.1.isSome) = true)
    (h : wpAny M A x (fun v s₁ => wpAny M A (evalAll (kws.map (·.2))) (fun ks s₂ => PySem.W.StarOf M A E v (fun vs s₃ => Q ⟨vs, (kws.filterMap (·.1)).zip ks⟩ s₃) s₂) E s₁) E s) :
    wpAny M A (evalArgs f true [(true, (do let v ← x; standAt pos; pure v))] kws) Q E s := by
  unfold evalArgs
  refine wpAny_bind (wpAny_bind (wpAny_mono h (fun v s₁ h₁ => wpAny_bind (wpAny_standAt (wpAny_pure ?_))) fun _ _ x => x))
  refine wpAny_holding ?_
  simp only [hall, if_true]
  refine wpAny_bind (wpAny_mono h₁ (fun ks s₂ h₂ => ?_) fun _ _ x => x)
  unfold PySem.W.StarOf at h₂
  refine wpAny_bind (wpAny_bind (wpAny_mono h₂ (fun b s₃ h₃ => ?_) fun _ _ x => x))
  obtain ⟨rfl, h₃⟩ := h₃
  have z := wpAny_holding (vs := ((kws.filterMap (·.1)).zip ks).map (·.2)) (wpAny_mono h₃ (fun vs s₄ h₄ => (wpAny_pure h₄ : wpAny M A (pure (⟨vs, (kws.filterMap (·.1)).zip ks⟩ : Args)) Q E s₄)) fun _ _ x => x)
  simp only [Bool.false_eq_true, if_false]
  exact z
theorem args_many {f : Value} {y : Bool × Sem Value} {b : Bool} {t : Sem Value} {rest : List (Bool × Sem Value)} {keywords : List (Option Str × Sem Value)} {Q : Args → Shared → Prop}
    (hall : keywords.all (·.1.isSome) = true)
    (h : wpAny M A (spliced ((b, t) :: y :: rest)) (fun vs s₁ => wpAny M A (evalAll (keywords.map (·.2))) (fun ks s₂ => Q ⟨vs, (keywords.filterMap (·.1)).zip ks⟩ s₂) E s₁) E s) :
    wpAny M A (evalArgs f true ((b, t) :: y :: rest) keywords) Q E s := by
  unfold evalArgs
  cases b <;>
  · show wpAny M A (spliced _ >>= _) Q E s
    refine wpAny_bind (wpAny_mono h (fun vs s₁ h₁ => ?_) fun _ _ x => x)
    refine wpAny_holding ?_
    simp only [hall, if_true]
    refine wpAny_bind (wpAny_mono h₁ (fun ks s₂ h₂ => ?_) fun _ _ x => x)
    exact wpAny_bind (wpAny_pure (wpAny_pure h₂))
theorem call_star {f : Value} {first : List Value} {pos : Pos} {Q : Value → Shared → Prop} {P : Heap → Prop} {args : List (Bool × Sem Value)} {kws : List (Option Str × Sem Value)} (hst : args.any (·.1) = true)
    (hk : ∀ h, P h → ∃ k, (k = Keeper.frame ∨ k = Keeper.machine ∨ k = Keeper.boundFrame) ∧ PySem.W.Looks M h (keeperOf f) k)
    (h : wpAny M A (evalArgs f true args kws) (fun a s₁ => P s₁.heap ∧ wpAny M A (call f (first ++ a.pos) a.kw) Q E s₁) E s) : wpAny M A (callWith pos f first args kws) Q E s := by
  unfold callWith
  refine wpAny_bind (wpAny_holding (wpAny_mono h (fun a s₁ h₁ => wpAny_bind (wpAny_standAt ?_)) fun _ _ x => x))
  obtain ⟨k, hk', L⟩ := hk _ h₁.1
  simp only [hst, Bool.true_or]
  refine wpAny_bind (L.here ?_)
  have tail : ∀ {t : Sem Value}, wpAny M A t Q E s₁ → wpAny M A (t >>= fun r => holding [r] point >>= fun _ => pure r) Q E s₁ :=
    fun ht => wpAny_bind (wpAny_mono ht (fun r s₂ hr => wpAny_bind (wpAny_holding (wpAny_point (wpAny_pure hr)))) fun _ _ x => x)
  have marked (mk : Value) : wpAny M A (callMarked mk f (first ++ a.pos) a.kw) Q E s₁ := by unfold callMarked; exact Calls.wpAny_keep h₁.2
  rcases hk' with rfl | rfl | rfl <;> dsimp only <;> first | exact tail (marked _) | exact tail (wpAny_operating h₁.2)
theorem withStar1 {K : PySem.W.Frag} {env : Env} {pos p : Pos} {f : Value} {first : List Value} {Q : Value → Shared → Prop} {e : Expr} {kws : List Keyword} (hk : PySem.W.keepIn K f = true) (hall : (backToKw pos (keywordEach kws env)).all (·.1.isSome) = true)
    (h : wpAny M A (eval e env) (fun v s₁ => wpAny M A (evalAll ((backToKw pos (keywordEach kws env)).map (·.2))) (fun ks s₂ => PySem.W.StarOf M A E v (fun vs s₃ => K.In s₃.heap ∧ wpAny M A (call f (first ++ vs) (((backToKw pos (keywordEach kws env)).filterMap (·.1)).zip ks)) Q E s₃) s₂) E s₁) E s)
    (he : starEach [.Starred e p] env = [(true, eval e env)] := by rfl) :
    wpAny M A (callWith pos f first (backTo pos (starEach [.Starred e p] env)) (backToKw pos (keywordEach kws env))) Q E s := by
  rw [he]
  exact call_star rfl (PySem.W.keeps_K hk) (args_lone hall h)
theorem withStarN {K : PySem.W.Frag} {env : Env} {pos : Pos} {f : Value} {first : List Value} {Q : Value → Shared → Prop} {e e2 : Expr} {es : List Expr} {kws : List Keyword} {b b2 : Bool} {t t2 : Sem Value} (hk : PySem.W.keepIn K f = true) (hall : (backToKw pos (keywordEach kws env)).all (·.1.isSome) = true)
    (h : wpAny M A (spliced (backTo pos (starEach (e :: e2 :: es) env))) (fun vs s₁ => wpAny M A (evalAll ((backToKw pos (keywordEach kws env)).map (·.2))) (fun ks s₂ => K.In s₂.heap ∧ wpAny M A (call f (first ++ vs) (((backToKw pos (keywordEach kws env)).filterMap (·.1)).zip ks)) Q E s₂) E s₁) E s)
    (he : starEach (e :: e2 :: es) env = (b, t) :: (b2, t2) :: starEach es env := by rfl) (hst : (backTo pos (starEach (e :: e2 :: es) env)).any (·.1) = true := by rfl) :
    wpAny M A (callWith pos f first (backTo pos (starEach (e :: e2 :: es) env)) (backToKw pos (keywordEach kws env))) Q E s := by
  refine call_star hst (PySem.W.keeps_K hk) ?_
  rw [he] at h ⊢
  exact args_many hall h
end
/-- what lies at f, called with any number of values from np on -/
def RunsS (X : Cx) (f : Addr) (np : Nat) (ks : List Str) (gd : List Vl → List Vl → Mem → Option (R Vl × Mem)) : Prop := ∀ n, np ≤ n → n < sizeLine → Z.Runs X f n ks gd
theorem Sz.sruns {X : Cx} {c : Str} {k np : Nat} {f : Addr} {ks : List Str} {gz : List Vl → List Vl → List Vl} {g : FD} (M : Mk X.K (He.ga X.K c) f) (F : Sz X.prog X.w X.K X.mg X.base k f (np + 1) ks gz g) (hr : Room (k + 1) X.A) : RunsS X (He.ga X.K c) np ks (initD c gz g) := fun n h1 h2 => Sz.mruns M F hr (Nat.succ_le_succ h1) h2
section
variable {X : Cx} {o e e2 : Expr} {es : List Expr} {kws : List Keyword} {pos p apos sp_ : Pos} {de : DE} {d dk : DA} {x c mn : Str} {k n np : Nat} {f : Addr} {ks : List Str} {gz : List Vl → List Vl → List Vl} {g : FD} {gd : List Vl → List Vl → Mem → Option (R Vl × Mem)}
/-- f(*e, k = v, ..) -/
def dCallSt (np j : Nat) (gd : List Vl → List Vl → Mem → Option (R Vl × Mem)) (de : DE) (dk : DA) : DE := fun env m => bindR (de env m) fun x m => bindR (dk env m) fun ys m => match seqD m x with
  | some xs => if np ≤ xs.length ∧ xs.length < sizeLine ∧ ys.length = j then gd xs ys m else none
  | none => none
theorem se_callSt (R : RunsS X f np ks gd) (hk : PySem.W.keepIn X.K (.ref f) = true) (hm : X.mg x = some (.ref f)) (hg : Gl X x) (he : SE X e de) (hkw : SK X kws dk)
    (hall : (backToKw pos (keywordEach kws X.env)).all (·.1.isSome) = true := by rfl) (hks : (backToKw pos (keywordEach kws X.env)).filterMap (·.1) = ks := by rfl) (hdb : (x == ("__debug__" : Str)) = false := by decide)
    (hst : starEach [.Starred e sp_] X.env = [(true, eval e X.env)] := by rfl) : SE X (.Call (.Name x p) [.Starred e sp_] kws pos) (dCallSt np ks.length gd de dk) := ⟨fun W tk => ⟨fun pins s σ H Q I h => by
  obtain ⟨ρ, env, m, z, m', st, ee, pp⟩ := h
  have h' : rdE X.K W de σ H (fun v H1 => rdA X.K W dk σ H1 fun zs H2 => ∃ ρ1 m1 xs ys a vs, v = .ref a ∧ (SqL X.K H2 a vs ∨ SqT X.K H2 a vs) ∧ RM X.K ρ1 m1 H2 ∧ RVs X.K ρ1 H2 xs vs ∧ RVs X.K ρ1 H2 ys zs ∧ np ≤ xs.length ∧ xs.length < sizeLine ∧ ys.length = ks.length ∧ gd xs ys m1 = some (z, m') ∧ Po X.K ρ1 H2 (RV X.K) (fun c dd H' => W c dd σ H') Q z m') :=
    bindE st ee pp fun x m1 ρ1 H1 v s1 E1 r1 e1 p1 => bindA s1 e1 p1 fun ys m2 ρ2 H2 zs s2 E2 r2 e2 p2 => by
      split at e2
      · rename_i xs hx
        split at e2
        · rename_i hn
          obtain ⟨a, vs, rfl, h1, h2⟩ := seqD_ok s2.mem (r1.mono E2) hx
          exact ⟨ρ2, m2, xs, ys, a, vs, rfl, h1, s2.mem, h2, r2, hn.1, hn.2.1, hn.2.2, e2, p2⟩
        · cases e2
      · cases e2
  refine wpAny_Call_Name_kw (ld_glob I hg hm ?_ hdb)
  refine withStar1 hk hall (thn ((he.run W tk).run pins s σ H _ I h') fun u s1 ⟨v, H1, I1, rv, q⟩ => ?_) hst
  refine thn ((hkw.run W tk).run pos pins s1 σ H1 _ I1 q) fun ws s2 ⟨zs, H2, I2, rz, ρ1, m1, xs, ys, a, vs, ev, hs, M1, rx, ry, n1, n2, hy, e1, p1⟩ => ?_
  subst ev
  obtain rfl : u = Value.ref a := rv
  refine StX.star_any I2 hs.symm fun us s3 I3 rus => ⟨I3.kIn, ?_⟩
  rw [hks]
  exact R xs.length n1 n2 tk I3 rus rz M1 rx ry rfl hy e1 p1⟩⟩
/-- f(*e, e2, .., k = v, ..) -/
def dCallSm (np j : Nat) (gd : List Vl → List Vl → Mem → Option (R Vl × Mem)) (d dk : DA) : DE := fun env m => bindR (d env m) fun xs m => bindR (dk env m) fun ys m => if np ≤ xs.length ∧ xs.length < sizeLine ∧ ys.length = j then gd xs ys m else none
theorem se_callSm {b b2 : Bool} {t t2 : Sem Value} (R : RunsS X f np ks gd) (hk : PySem.W.keepIn X.K (.ref f) = true) (hm : X.mg x = some (.ref f)) (hg : Gl X x) (ha : SA X (e :: e2 :: es) d) (hkw : SK X kws dk)
    (hall : (backToKw pos (keywordEach kws X.env)).all (·.1.isSome) = true := by rfl) (hks : (backToKw pos (keywordEach kws X.env)).filterMap (·.1) = ks := by rfl) (hdb : (x == ("__debug__" : Str)) = false := by decide)
    (hes : starEach (e :: e2 :: es) X.env = (b, t) :: (b2, t2) :: starEach es X.env := by rfl) (hst : (backTo pos (starEach (e :: e2 :: es) X.env)).any (·.1) = true := by rfl) : SE X (.Call (.Name x p) (e :: e2 :: es) kws pos) (dCallSm np ks.length gd d dk) := ⟨fun W tk => ⟨fun pins s σ H Q I h => by
  obtain ⟨ρ, env, m, z, m', st, ee, pp⟩ := h
  have h' : rdA X.K W d σ H (fun vs H1 => rdA X.K W dk σ H1 fun zs H2 => ∃ ρ1 m1 xs ys, RM X.K ρ1 m1 H2 ∧ RVs X.K ρ1 H2 xs vs ∧ RVs X.K ρ1 H2 ys zs ∧ np ≤ xs.length ∧ xs.length < sizeLine ∧ ys.length = ks.length ∧ gd xs ys m1 = some (z, m') ∧ Po X.K ρ1 H2 (RV X.K) (fun c dd H' => W c dd σ H') Q z m') :=
    bindA st ee pp fun xs m1 ρ1 H1 vs s1 E1 r1 e1 p1 => bindA s1 e1 p1 fun ys m2 ρ2 H2 zs s2 E2 r2 e2 p2 => by
      split at e2
      · rename_i hn
        exact ⟨ρ2, m2, xs, ys, s2.mem, r1.mono E2, r2, hn.1, hn.2.1, hn.2.2, e2, p2⟩
      · cases e2
  refine wpAny_Call_Name_kw (ld_glob I hg hm ?_ hdb)
  refine withStarN hk hall (thn ((ha.run W tk).run pos pins s σ H _ I h') fun us s1 ⟨vs, H1, I1, r, q⟩ => ?_) hes hst
  refine thn ((hkw.run W tk).run pos pins s1 σ H1 _ I1 q) fun ws s2 ⟨zs, H2, I2, rz, ρ1, m1, xs, ys, M1, rx, ry, n1, n2, hy, e1, p1⟩ => ⟨I2.kIn, ?_⟩
  rw [hks]
  exact R xs.length n1 n2 tk I2 r rz M1 rx ry rfl hy e1 p1⟩⟩
/-- C.m(e, .., k = v, ..), m static -/
theorem se_smethK {pl : Sem Bool} (he : SE X o de) (h : SMd X.K c mn) (F : Fz X.prog X.w X.K X.mg X.base k (smA X.K c mn) n ks gz g) (hr : Room k X.A) (ha : SA X (e :: es) d) (hkw : SK X kws dk)
    (hall : (backToKw pos (keywordEach kws X.env)).all (·.1.isSome) = true := by rfl) (hks : (backToKw pos (keywordEach kws X.env)).filterMap (·.1) = ks := by rfl)
    (hst : starEach (e :: es) X.env = (false, eval e X.env) :: starEach es X.env := by rfl) (hpl : ((backTo pos (starEach (e :: es) X.env)).any (·.1) || (backToKw pos (keywordEach kws X.env)).any (·.1.isNone)) = false := by rfl)
    (ht : eval (.Call (.Attribute o mn apos) (e :: es) kws pos) X.env = (do
      let ov ← eval o X.env
      standAt apos.atName
      let (f, first) ← holding [ov] (getMethod ov mn pl)
      callWith pos f first (backTo pos (starEach (e :: es) X.env)) (backToKw pos (keywordEach kws X.env))) := by rfl) :
    SE X (.Call (.Attribute o mn apos) (e :: es) kws pos) (dSMeth c n ks.length gz g de d dk) := ⟨fun W tk => ⟨fun pins s σ H Q I h0 => by
  obtain ⟨ρ, env, m, z, m', st, ee, pp⟩ := h0
  have h' : rdE X.K W de σ H (fun v H1 => v = .ref (He.ga X.K c) ∧ rdA X.K W d σ H1 fun vs H2 => rdA X.K W dk σ H2 fun zs H3 => ∃ ρ1 m1 xs ys, RM X.K ρ1 m1 H3 ∧ RVs X.K ρ1 H3 xs vs ∧ RVs X.K ρ1 H3 ys zs ∧ xs.length = n ∧ ys.length = ks.length ∧ g (gz xs ys) m1 = some (z, m') ∧ Po X.K ρ1 H3 (RV X.K) (fun c dd H' => W c dd σ H') Q z m') :=
    bindE st ee pp fun x m1 ρ1 H1 v s1 E1 r1 e1 p1 => by
      split at e1
      · rename_i c'
        split at e1
        · rename_i hc
          subst hc
          refine ⟨r1, bindA s1 e1 p1 fun xs m2 ρ2 H2 vs s2 E2 r2 e2 p2 => bindA s2 e2 p2 fun ys m3 ρ3 H3 zs s3 E3 r3 e3 p3 => ?_⟩
          split at e3
          · rename_i hn
            exact ⟨ρ3, m3, xs, ys, s3.mem, r2.mono E3, r3, hn.1, hn.2, e3, p3⟩
          · cases e3
        · cases e1
      · cases e1
  refine PySem.W.methodCall_KW (pl := pl) (thn ((he.run W tk).run pins s σ H _ I h') fun u s1 ⟨x, H1, I1, rx, ex, q⟩ => ?_) ht
  subst ex
  obtain rfl : u = Value.ref (He.ga X.K c) := rx
  refine getsm_ok I1 h fun s2 I2 => ?_
  refine PySem.W.callWith_KW (first := []) (h₀ := X.base) I.ok.mod.kin h.kp hall (thn ((ha.run W tk).run pos pins s2 σ H1 _ I2 q) fun us s3 ⟨vs, H2, I3, r, q3⟩ => ?_) hpl hst
  refine thn ((hkw.run W tk).run pos pins s3 σ H2 _ I3 q3) fun ws s4 ⟨zs, H3, I4, rz, ρ1, m1, xs, ys, M1, rx, ry, hn, hy, e1, p1⟩ => ⟨I4.kIn, ?_⟩
  rw [hks]
  exact F.run hr tk I4 r rz M1 rx ry hn hy e1 p1⟩⟩
end
@[simp] theorem dCallSt_ap {np j : Nat} {gd : List Vl → List Vl → Mem → Option (R Vl × Mem)} {de : DE} {dk : DA} {env : Ev} {m : Mem} : dCallSt np j gd de dk env m = bindR (de env m) fun x m => bindR (dk env m) fun ys m => match seqD m x with
  | some xs => if np ≤ xs.length ∧ xs.length < sizeLine ∧ ys.length = j then gd xs ys m else none
  | none => none := rfl
@[simp] theorem dCallSm_ap {np j : Nat} {gd : List Vl → List Vl → Mem → Option (R Vl × Mem)} {d dk : DA} {env : Ev} {m : Mem} : dCallSm np j gd d dk env m = bindR (d env m) fun xs m => bindR (dk env m) fun ys m => if np ≤ xs.length ∧ xs.length < sizeLine ∧ ys.length = j then gd xs ys m else none := rfl
end Z
namespace Z
open PySem PySem.Spec PyProof.Rows L2
/-! ### dicts whose keys are written tuples -/
section
variable {K : PySem.W.Frag} {ρ : Lay} {H : Hp}
theorem rts_val : ∀ {ks : List (List Key × Vl)} {vs : List (List Key × V)} (k : List Key), RTs K ρ H ks vs → (lookZ ks k = none ∧ valV vs k = none) ∨ ∃ x v, lookZ ks k = some x ∧ valV vs k = some v ∧ RV K ρ H x v
  | [], vs, k, h => by
    obtain rfl : vs = [] := h
    exact .inl ⟨rfl, rfl⟩
  | (j, x) :: ks, vs, k, ⟨v, r, e, h1, h2⟩ => by
    subst e
    by_cases q : j = k
    · exact .inr ⟨x, v, by simp [lookZ, q], by simp [valV, q], h1⟩
    · have ih := rts_val k h2
      have e1 : lookZ ((j, x) :: ks) k = lookZ ks k := by simp [lookZ, List.find?_cons, q]
      have e2 : valV ((j, v) :: r) k = valV r k := by simp [valV, List.find?_cons, q]
      rw [e1, e2]
      exact ih
theorem rts_any : ∀ {ks : List (List Key × Vl)} {vs : List (List Key × V)} (k : List Key), RTs K ρ H ks vs → (ks.any fun p => decide (p.1 = k)) = vs.any fun p => decide (p.1 = k)
  | [], vs, k, h => by
    obtain rfl : vs = [] := h
    rfl
  | (j, x) :: ks, vs, k, ⟨v, r, e, h1, h2⟩ => by
    subst e
    rw [List.any_cons, List.any_cons, rts_any k h2]
theorem rts_app : ∀ {ks js : List (List Key × Vl)} {vs ws : List (List Key × V)}, RTs K ρ H ks vs → RTs K ρ H js ws → RTs K ρ H (ks ++ js) (vs ++ ws)
  | [], js, vs, ws, h, g => by
    obtain rfl : vs = [] := h
    exact g
  | (j, x) :: ks, js, vs, ws, ⟨v, r, e, h1, h2⟩, g => by
    subst e
    exact ⟨v, r ++ ws, rfl, h1, rts_app h2 g⟩
theorem rts_map1 {k : List Key} {y : Vl} {w : V} (q : RV K ρ H y w) : ∀ {ks : List (List Key × Vl)} {vs : List (List Key × V)}, RTs K ρ H ks vs → RTs K ρ H (ks.map fun p => if p.1 = k then (p.1, y) else p) (vs.map fun p => if p.1 = k then (p.1, w) else p)
  | [], vs, h => by
    obtain rfl : vs = [] := h
    exact rfl
  | (j, x) :: ks, vs, ⟨v, r, e, h1, h2⟩ => by
    subst e
    have ih := rts_map1 (k := k) q h2
    by_cases c : j = k
    · simp only [List.map_cons, c, if_true]
      exact ⟨w, _, rfl, q, ih⟩
    · simp only [List.map_cons, c, if_false]
      exact ⟨v, _, rfl, h1, ih⟩
theorem rts_put {ks : List (List Key × Vl)} {vs : List (List Key × V)} (k : List Key) {y : Vl} {w : V} (h : RTs K ρ H ks vs) (q : RV K ρ H y w) : RTs K ρ H (putZ ks k y) (putK vs k w) := by
  unfold putZ putK
  rw [rts_any k h]
  split
  · exact rts_map1 q h
  · exact rts_app h ⟨w, [], rfl, q, rfl⟩
theorem rts_len : ∀ {ks : List (List Key × Vl)} {vs : List (List Key × V)}, RTs K ρ H ks vs → ks.length = vs.length
  | [], vs, h => by
    obtain rfl : vs = [] := h
    rfl
  | (j, x) :: ks, vs, ⟨v, r, e, h1, h2⟩ => by
    subst e
    rw [List.length_cons, List.length_cons, rts_len h2]
theorem keys_ok : ∀ {xs : List Vl} {vs : List V} {k : List Key}, mapO keyD xs = some k → RVs K ρ H xs vs → vs = k.map kV
  | [], vs, k, h, r => by
    cases h
    exact r
  | x :: xs, vs, k, h, r => by
    obtain ⟨v, ws, rfl, h2, h3⟩ := r
    unfold mapO at h
    cases hk : keyD x with
    | none =>
      rw [hk] at h
      cases h
    | some j =>
      cases hks : mapO keyD xs with
      | none =>
        rw [hk, hks] at h
        cases h
      | some js =>
        rw [hk, hks] at h
        cases h
        rw [keyD_ok hk h2, keys_ok hks h3]
        rfl
def ditD (m : Mem) : Vl → Option (List (List Key × Vl))
  | .obj n => (match m[n]? with
    | some (.dit ks) => some ks
    | _ => none)
  | _ => none
theorem ditD_ok {m : Mem} {x : Vl} {v : V} {ks : List (List Key × Vl)} (M : RM K ρ m H) (r : RV K ρ H x v) (h : ditD m x = some ks) : ∃ a vs, v = .ref a ∧ H a = some (.dT vs) ∧ RTs K ρ H ks vs := by
  unfold ditD at h
  split at h
  · rename_i n
    split at h
    · rename_i js hy
      cases h
      obtain ⟨p, rfl, hp⟩ := r
      obtain ⟨gs, h1, h2⟩ := M.at_ _ _ _ hy hp
      exact ⟨p, gs, rfl, h1, h2⟩
    · cases h
  · cases h
theorem ext_tup {ρ1 ρ2 : Lay} {H1 H2 : Hp} {m : Mem} {p : Addr} {vs : List V} (M : RM K ρ1 m H1) (hp : H1 p = none) (E : Ext ρ1 (upd H1 p (.tup vs)) ρ2 H2) : H2 p = some (.tup vs) := E.keep p _ upd_same (M.fresh hp)
end
section
variable {X : Cx} {a b e o value : Expr} {es : List Expr} {pos pos' tpos p : Pos} {n : Nat} {da db do' dv : DE} {d : DA}
/-- {} -/
def dNewT : DE := fun _ m => some (.ok (.obj m.length), m ++ [.dit []])
theorem se_dnewT : SE X (.Dict [] [] pos) dNewT := ⟨fun W tk => impPE pe_dnewT fun σ H Q ⟨ρ, env, m, z, m', s, e, pp⟩ => by
  cases e
  intro q hq
  obtain ⟨M, E, r⟩ := new_cel (o := .dT []) (c := .dit []) s.mem hq rfl ⟨[], upd_same, rfl⟩
  exact pp _ _ M E _ r⟩
/-- (e, ..) in o -/
def dInT (neg : Bool) (d : DA) (db : DE) : DE := fun env m => bindR (d env m) fun xs m => if xs.length ≤ sizeLine then bindR (db env m) fun y m => match mapO keyD xs, ditD m y with
  | some k, some ks => some (.ok (.bl (if neg then !(lookZ ks k).isSome else (lookZ ks k).isSome)), m)
  | _, _ => none else none
theorem din_t {K : PySem.W.Frag} {ρ : Lay} {m : Mem} {H : Hp} {y : Vl} {u : V} {q : Addr} {vs : List V} {ks : List (List Key × Vl)} {k : List Key} (M : RM K ρ m H) (hq : H q = some (.tup vs)) (hv : vs = k.map kV) (r2 : RV K ρ H y u) (hd : ditD m y = some ks) : ∃ a o, u = .ref a ∧ DGet H a (.ref q) o ∧ o.isSome = (lookZ ks k).isSome := by
  obtain ⟨a, ws, rfl, h3, h4⟩ := ditD_ok M r2 hd
  subst hv
  refine ⟨a, _, rfl, DGet.t h3 hq, ?_⟩
  rcases rts_val k h4 with ⟨h5, h6⟩ | ⟨x', v', h5, h6, h7⟩ <;> rw [h5, h6] <;> rfl
theorem se_dinT (hu : X.A.units + 1 < cLine) (ha : SA X es d) (hb : SE X b db) (hm : behindInMarks .In b = false := by rfl) : SE X (.Compare (.Tuple es n tpos) [.In] [b] pos) (dInT false d db) := ⟨fun W tk => impPE (pe_cmp (pc_din hu (pe_tup (ha.run W tk)) (hb.run W tk)) hm) fun σ H Q ⟨ρ, env, m, z, m', s, e, p⟩ =>
  bindA s e p fun xs m1 ρ1 H1 vs s1 E1 r1 e1 p1 => by
    split at e1
    · rename_i hz
      refine ⟨by rw [← r1.length]; exact hz, fun q hq => ?_⟩
      have E2 := ext_new (ρ := ρ1) (o := HO.tup vs) hq
      refine bindE (⟨s1.mem.laid hq, s1.env.mono E2⟩ : S X.K ρ1 env m1 σ (upd H1 q (.tup vs))) e1 (p1.mono E2) fun y m2 ρ2 H2 u s2 E3 r2 e2 p2 => ?_
      split at e2
      · rename_i k ks hk hd
        cases e2
        obtain ⟨a, o, rfl, g, h3⟩ := din_t s2.mem (ext_tup s1.mem hq E3) (keys_ok hk r1) r2 hd
        exact ⟨a, o, rfl, g, p2 ρ2 H2 s2.mem .refl _ (by rw [h3]; rfl)⟩
      · cases e2
    · cases e1⟩
theorem se_dnotinT (hu : X.A.units + 1 < cLine) (ha : SA X es d) (hb : SE X b db) (hm : behindInMarks .NotIn b = false := by rfl) : SE X (.Compare (.Tuple es n tpos) [.NotIn] [b] pos) (dInT true d db) := ⟨fun W tk => impPE (pe_cmp (pc_dnotin hu (pe_tup (ha.run W tk)) (hb.run W tk)) hm) fun σ H Q ⟨ρ, env, m, z, m', s, e, p⟩ =>
  bindA s e p fun xs m1 ρ1 H1 vs s1 E1 r1 e1 p1 => by
    split at e1
    · rename_i hz
      refine ⟨by rw [← r1.length]; exact hz, fun q hq => ?_⟩
      have E2 := ext_new (ρ := ρ1) (o := HO.tup vs) hq
      refine bindE (⟨s1.mem.laid hq, s1.env.mono E2⟩ : S X.K ρ1 env m1 σ (upd H1 q (.tup vs))) e1 (p1.mono E2) fun y m2 ρ2 H2 u s2 E3 r2 e2 p2 => ?_
      split at e2
      · rename_i k ks hk hd
        cases e2
        obtain ⟨a, o, rfl, g, h3⟩ := din_t s2.mem (ext_tup s1.mem hq E3) (keys_ok hk r1) r2 hd
        exact ⟨a, o, rfl, g, p2 ρ2 H2 s2.mem .refl _ (by rw [h3]; rfl)⟩
      · cases e2
    · cases e1⟩
/-- o[e, ..] = v -/
def dPutT (do' : DE) (d : DA) (dv : DE) : DS := fun env m => bindS (dv env m) env fun v m => bindS (do' env m) env fun x m => bindS (d env m) env fun xs m => match x, mapO keyD xs with
  | .obj n, some k => (match m[n]? with
    | some (.dit ks) => if xs.length ≤ sizeLine ∧ ks.length < sizeLine then some (.nx env, m.set n (.dit (putZ ks k v))) else none
    | _ => none)
  | _, _ => none
theorem ss_dputT (hu : X.A.units + 1 < cLine) (ho : SE X o do') (ha : SA X es d) (hv : SE X value dv) (hs : swapsWith value (some (.Subscript o (.Tuple es n tpos) pos')) pos.line X.env = pure false := by rfl) : SS X (.Assign [.Subscript o (.Tuple es n tpos) pos'] value pos) (dPutT do' d dv) := ⟨fun W tk =>
  impPS (ps_dput hu (ho.run W tk) (pe_tup (ha.run W tk)) (hv.run W tk) hs) fun D σ H ⟨ρ, env, m, f, m', s, e, p⟩ =>
    sbE s e p fun v m1 ρ1 H1 vv s1 E1 r1 e1 p1 => sbE s1 e1 p1 fun x m2 ρ2 H2 u s2 E2 r2 e2 p2 => sbA s2 e2 p2 fun xs m3 ρ3 H3 ws s3 E3 r3 e3 p3 => by
      split at e3
      · rename_i n k hk
        split at e3
        · rename_i ks hn
          split at e3
          · rename_i hz
            cases e3
            refine ⟨by rw [← r3.length]; exact hz.1, fun q hq => ?_⟩
            obtain ⟨a, rfl, ha⟩ := r2.mono E3
            obtain ⟨vs, h1, h2⟩ := s3.mem.at_ _ _ _ hn ha
            have E4 := ext_new (ρ := ρ3) (o := HO.tup ws) hq
            have M4 := s3.mem.laid (o := HO.tup ws) hq
            have hne : a ≠ q := ne_of_none h1 hq
            have h1' : (upd H3 q (.tup ws)) a = some (.dT vs) := by
              rw [upd_ne hne]
              exact h1
            have E5 : Ext ρ3 (upd H3 q (.tup ws)) ρ3 (upd (upd H3 q (.tup ws)) a (.dT (putK vs k vv))) := ext_set (List.mem_of_getElem? ha)
            have EE := E4.trans E5
            have rv := ((r1.mono E2).mono E3).mono EE
            have M5 := M4.put (o := .dT (putK vs k vv)) (c := .dit (putZ ks k v)) ha ⟨_, upd_same, rts_put k (RTs.mono EE ks h2) rv⟩
            have hk2 : ws = k.map kV := keys_ok hk r3
            exact ⟨a, _, rfl, DPut.t h1' (by rw [upd_same, hk2]) (by rw [← rts_len h2]; exact hz.2), p3 ρ3 _ M5 EE σ (s3.env.mono EE)⟩
          · cases e3
        · cases e3
      · cases e3⟩
end
@[simp] theorem dNewT_ap {env : Ev} {m : Mem} : dNewT env m = some (.ok (.obj m.length), m ++ [.dit []]) := rfl
@[simp] theorem dInT_ap {neg : Bool} {d : DA} {db : DE} {env : Ev} {m : Mem} : dInT neg d db env m = bindR (d env m) fun xs m => if xs.length ≤ sizeLine then bindR (db env m) fun y m => match mapO keyD xs, ditD m y with
  | some k, some ks => some (.ok (.bl (if neg then !(lookZ ks k).isSome else (lookZ ks k).isSome)), m)
  | _, _ => none else none := rfl
@[simp] theorem dPutT_ap {do' : DE} {d : DA} {dv : DE} {env : Ev} {m : Mem} : dPutT do' d dv env m = bindS (dv env m) env fun v m => bindS (do' env m) env fun x m => bindS (d env m) env fun xs m => match x, mapO keyD xs with
  | .obj n, some k => (match m[n]? with
    | some (.dit ks) => if xs.length ≤ sizeLine ∧ ks.length < sizeLine then some (.nx env, m.set n (.dit (putZ ks k v))) else none
    | _ => none)
  | _, _ => none := rfl
theorem ditD_obj {m : Mem} {n : Nat} {ks : List (List Key × Vl)} (h : m[n]? = some (.dit ks)) : ditD m (.obj n) = some ks := by
  unfold ditD
  simp only [h]
/-! ### built-ins that give a new list -/
def SLF (K : PySem.W.Frag) (f : Mem → List Vl → Option (List Vl)) (r : List V → Hp → VK → Prop) : Prop := ∀ (ρ : Lay) (m : Mem) (H : Hp) (xs : List Vl) (vs : List V) (ys : List Vl) (Q : VK), RM K ρ m H → RVs K ρ H xs vs → f m xs = some ys → (∀ ws, RVs K ρ H ys ws → ws.length ≤ sizeLine → ∀ l, H l = none → Q (.ref l) (upd H l (.lst ws))) → r vs H Q
def dLF (f : Mem → List Vl → Option (List Vl)) (d : DA) : DA := fun env m => bindR (d env m) fun xs m => match f m xs with
  | some ys => some (.ok ys, m)
  | none => none
@[simp] theorem dLF_ap {f : Mem → List Vl → Option (List Vl)} {d : DA} {env : Ev} {m : Mem} : dLF f d env m = bindR (d env m) fun xs m => match f m xs with
  | some ys => some (.ok ys, m)
  | none => none := rfl
theorem sl_callB {X : Cx} {e : Expr} {es : List Expr} {p pos : Pos} {d : DA} {x : Str} {id : String} {r : List V → Hp → VK → Prop} {f : Mem → List Vl → Option (List Vl)} (hc : CallR X (.builtin id) r) (hf : SLF X.K f r) (hg : Gl X x) (hm : X.mg x = none) (hv : bootBuiltins x = some (.builtin id)) (ha : SA X (e :: es) d) (hn : x ≠ "__name__" := by decide) (hdb : (x == ("__debug__" : Str)) = false := by decide)
    (he : starEach (e :: es) X.env = (false, eval e X.env) :: starEach es X.env := by rfl) (hpl : (backTo pos (starEach es X.env)).any (·.1) = false := by rfl) : SL X (.Call (.Name x p) (e :: es) [] pos) (dLF f d) := ⟨fun W tk => impPE (pe_callB hc hg hm hv (ha.run W tk) hn hdb he hpl) fun σ H Q ⟨ρ, env, m, z, m', s, e, p⟩ => by
    unfold dLF bindR at e
    split at e
    · cases e
    · rename_i xs m1 h0
      refine goA s h0 fun ρ' H' vs s' E r => ?_
      dsimp only at e
      split at e
      · rename_i ys hy
        cases e
        exact hf ρ' _ H' xs vs ys Q s'.mem r hy fun ws h4 hz l hl => p ρ' _ (s'.mem.laid hl) (E.trans (ext_new hl)) _ ⟨l, ws, rfl, ⟨s'.mem.fresh hl, s'.mem.freshz hl, E.none hl⟩, upd_same, hz, h4.mono (ext_new hl)⟩
      · cases e
    · rename_i c fs m1 h0
      cases e
      exact exA s h0 fun ρ' H' dd s' E r => p ρ' H' s'.mem E dd r⟩
/-- sorted(d) of int keys -/
def isort (ks : List Int) : List Int := ks.mergeSort fun a b => decide (a ≤ b)
theorem isort_perm (ks : List Int) : (isort ks).Perm ks := List.mergeSort_perm ks _
theorem isort_pw (ks : List Int) : (isort ks).Pairwise (· ≤ ·) := by
  have h := List.pairwise_mergeSort (le := fun a b : Int => decide (a ≤ b)) (fun a b c h1 h2 => by
    rw [decide_eq_true_eq] at *
    omega) (fun a b => by
    rw [Bool.or_eq_true, decide_eq_true_eq, decide_eq_true_eq]
    omega) ks
  exact h.imp fun h => of_decide_eq_true h
theorem isort_eq {ks ys : List Int} (hp : ys.Perm ks) (hs : ys.Pairwise (· ≤ ·)) : ys = isort ks := List.Perm.eq_of_pairwise (fun a b _ _ h1 h2 => by omega) hs (isort_pw ks) (hp.trans (isort_perm ks).symm)
def keyI : Key → Option Int
  | .inl i => some i
  | .inr _ => none
def sortKD : Mem → List Vl → Option (List Vl) := fun m xs => match xs with
  | [x] => (match dicD m x with
    | some ks => (match mapO (fun p => keyI p.1) ks with
      | some is => if is.length < 64 then some ((isort is).map .int) else none
      | none => none)
    | none => none)
  | _ => none
theorem rks_keys {K : PySem.W.Frag} {ρ : Lay} {H : Hp} : ∀ {ks : List (Key × Vl)} {vs : List (Key × V)}, RKs K ρ H ks vs → vs.map (·.1) = ks.map (·.1)
  | [], vs, h => by
    obtain rfl : vs = [] := h
    rfl
  | (j, x) :: ks, vs, ⟨v, r, e, h1, h2⟩ => by
    subst e
    rw [List.map_cons, List.map_cons, rks_keys h2]
theorem keysI : ∀ {ks : List (Key × Vl)} {is : List Int}, mapO (fun p => keyI p.1) ks = some is → ks.map (·.1) = is.map Sum.inl
  | [], is, h => by
    cases h
    rfl
  | (j, x) :: ks, is, h => by
    unfold mapO at h
    cases j with
    | inr s => cases h
    | inl i =>
      cases hk : mapO (fun p : Key × Vl => keyI p.1) ks with
      | none =>
        rw [hk] at h
        cases h
      | some js =>
        rw [hk] at h
        cases h
        rw [List.map_cons, List.map_cons, keysI hk]
theorem rvs_ints {K : PySem.W.Frag} {ρ : Lay} {H : Hp} : ∀ ns : List Int, RVs K ρ H (ns.map Vl.int) (ns.map V.int)
  | [] => rfl
  | n :: ns => ⟨_, _, rfl, rfl, rvs_ints ns⟩
theorem rvs_ints_eq {K : PySem.W.Frag} {ρ : Lay} {H : Hp} : ∀ {ns : List Int} {ws : List V}, RVs K ρ H (ns.map Vl.int) ws → ws = ns.map V.int
  | [], ws, h => h
  | n :: ns, ws, ⟨v, r, e, h1, h2⟩ => by
    rw [e, show v = V.int n from h1, rvs_ints_eq h2]
    rfl
theorem slf_sortKD {K : PySem.W.Frag} : SLF K sortKD (fun xs H Q => ∃ (a : Addr) (kvs : List (Key × V)) (ks : List Int), xs = [.ref a] ∧ Rd H a (.dK kvs) ∧ kvs.map (·.1) = ks.map Sum.inl ∧ ks.length < 64 ∧
    ∀ (ys : List Int) (p : Addr), ys.Perm ks → ys.Pairwise (· ≤ ·) → H p = none → Q (.ref p) (upd H p (.lst (ys.map V.int)))) := fun ρ m H xs vs ys Q M a e k => by
  unfold sortKD at e
  split at e
  · rename_i x
    split at e
    · rename_i ks hk
      split at e
      · rename_i is hi
        split at e
        · rename_i hz
          cases e
          obtain ⟨v, t, rfl, h1, h2⟩ := a
          subst h2
          obtain ⟨q, ws, rfl, h3, h4⟩ := dicD_ok M h1 hk
          refine ⟨q, ws, is, rfl, .inl h3, (rks_keys h4).trans (keysI hi), hz, fun ys p hp hs hn => ?_⟩
          rw [isort_eq hp hs]
          exact k _ (rvs_ints _) (by rw [List.length_map, (isort_perm is).length_eq]; exact Nat.le_trans (Nat.le_of_lt hz) (by decide)) p hn
        · cases e
      · cases e
    · cases e
  · cases e
/-- sorted(xs) of triples -/
def tup3 : Vl → Option (List Int)
  | .tup [.int a, .int b, .int c] => if (decide (0 ≤ a ∧ a < 1000) && (decide (0 ≤ b ∧ b < 1000) && decide (0 ≤ c ∧ c < 1000))) = true then some [a, b, c] else none
  | _ => none
def code3 (x : Vl) : Int := match tup3 x with
  | some ns => TS.code 1000 ns
  | none => 0
def usort (xs : List Vl) : List Vl := xs.mergeSort fun x y => decide (code3 x ≤ code3 y)
theorem usort_perm (xs : List Vl) : (usort xs).Perm xs := List.mergeSort_perm xs _
theorem usort_pw (xs : List Vl) : (usort xs).Pairwise fun x y => code3 x ≤ code3 y := by
  have h := List.pairwise_mergeSort (le := fun x y : Vl => decide (code3 x ≤ code3 y)) (fun a b c h1 h2 => by
    rw [decide_eq_true_eq] at *
    omega) (fun a b => by
    rw [Bool.or_eq_true, decide_eq_true_eq, decide_eq_true_eq]
    omega) xs
  exact h.imp fun h => of_decide_eq_true h
theorem tup3_of {x : Vl} {ns : List Int} (h : tup3 x = some ns) : ∃ a b c : Int, x = .tup [.int a, .int b, .int c] ∧ ns = [a, b, c] ∧ (0 ≤ a ∧ a < 1000) ∧ (0 ≤ b ∧ b < 1000) ∧ (0 ≤ c ∧ c < 1000) := by
  unfold tup3 at h
  split at h
  · rename_i a b c
    split at h
    · rename_i hc
      cases h
      simp only [Bool.and_eq_true, decide_eq_true_eq] at hc
      exact ⟨a, b, c, rfl, rfl, hc.1, hc.2.1, hc.2.2⟩
    · cases h
  · cases h
theorem code_three (a b c : Int) : TS.code 1000 [a, b, c] = a * 1000000 + b * 1000 + c := by
  have h : TS.code 1000 [a, b, c] = a * (1000 ^ 2) + (b * (1000 ^ 1) + (c * (1000 ^ 0) + 0)) := rfl
  rw [h]
  omega
theorem code3_inj {x y : Vl} {ns ms : List Int} (hx : tup3 x = some ns) (hy : tup3 y = some ms) (h : code3 x = code3 y) : x = y := by
  have e1 : code3 x = TS.code 1000 ns := by unfold code3; rw [hx]
  have e2 : code3 y = TS.code 1000 ms := by unfold code3; rw [hy]
  obtain ⟨a, b, c, rfl, rfl, a1, b1, c1⟩ := tup3_of hx
  obtain ⟨a', b', c', rfl, rfl, a2, b2, c2⟩ := tup3_of hy
  rw [e1, e2, code_three, code_three] at h
  obtain ⟨h1, h2, h3⟩ : a = a' ∧ b = b' ∧ c = c' := by omega
  rw [h1, h2, h3]
theorem usort_eq {xs ys : List Vl} (h3 : ∀ x ∈ xs, (tup3 x).isSome = true) (hp : ys.Perm xs) (hs : ys.Pairwise fun x y => code3 x ≤ code3 y) : ys = usort xs := List.Perm.eq_of_pairwise (le := fun x y => code3 x ≤ code3 y) (fun a b ha hb h1 h2 => by
  obtain ⟨n1, e1⟩ := Option.isSome_iff_exists.mp (h3 a (hp.mem_iff.mp ha))
  obtain ⟨n2, e2⟩ := Option.isSome_iff_exists.mp (h3 b ((usort_perm xs).mem_iff.mp hb))
  exact code3_inj e1 e2 (by omega)) hs (usort_pw xs) (hp.trans (usort_perm xs).symm)
theorem rvs_perm {K : PySem.W.Frag} {ρ : Lay} {H : Hp} {ws ys : List V} (h : ys.Perm ws) : ∀ {xs : List Vl}, RVs K ρ H xs ws → ∃ xs', xs'.Perm xs ∧ RVs K ρ H xs' ys := by
  induction h with
  | nil => exact fun {xs} r => ⟨xs, .refl _, r⟩
  | cons v _ ih =>
    intro xs r
    cases xs with
    | nil => cases r
    | cons x xs =>
      obtain ⟨u, t, e, h1, h2⟩ := r
      cases e
      obtain ⟨xs', p, q⟩ := ih h2
      exact ⟨x :: xs', p.cons x, _, _, rfl, h1, q⟩
  | swap v w l =>
    intro xs r
    cases xs with
    | nil => cases r
    | cons x xs =>
      obtain ⟨u, t, e, h1, h2⟩ := r
      cases e
      cases xs with
      | nil => cases h2
      | cons y xs =>
        obtain ⟨u, t, e, h3, h4⟩ := h2
        cases e
        exact ⟨y :: x :: xs, .swap _ _ _, _, _, rfl, h3, _, _, rfl, h1, h4⟩
  | trans _ _ ih1 ih2 =>
    intro xs r
    obtain ⟨x2, p2, r2⟩ := ih2 r
    obtain ⟨x1, p1, r1⟩ := ih1 r2
    exact ⟨x1, p1.trans p2, r1⟩
def sortUD : Mem → List Vl → Option (List Vl) := fun m xs => match xs with
  | [x] => (match lsD m x with
    | some ys => if (decide (ys.length < 64) && ys.all fun y => (tup3 y).isSome) = true then some (usort ys) else none
    | none => none)
  | _ => none
theorem tupI_of {K : PySem.W.Frag} {ρ : Lay} {H : Hp} {x : Vl} {v : V} {ns : List Int} (r : RV K ρ H x v) (h : tup3 x = some ns) : TupI K H v ns ∧ ns.length = 3 ∧ TS.Bd 1000 ns := by
  obtain ⟨a, b, c, rfl, rfl, a1, b1, c1⟩ := tup3_of h
  obtain ⟨q, vs, rfl, h1, h2⟩ := r
  have e : vs = [a, b, c].map V.int := rvs_ints_eq (ns := [a, b, c]) h2
  subst e
  refine ⟨⟨q, rfl, h1.sq⟩, rfl, fun m hm => ?_⟩
  simp only [List.mem_cons, List.not_mem_nil, or_false] at hm
  rcases hm with rfl | rfl | rfl
  · exact a1
  · exact b1
  · exact c1
theorem pw_rvs {K : PySem.W.Frag} {ρ : Lay} {H : Hp} : ∀ {xs : List Vl} {ys : List V}, RVs K ρ H xs ys → (∀ x ∈ xs, (tup3 x).isSome = true) → ys.Pairwise (fun x y => ∀ n m, TupI K H x n → TupI K H y m → TS.code 1000 n ≤ TS.code 1000 m) → xs.Pairwise fun x y => code3 x ≤ code3 y
  | [], ys, _, _, _ => .nil
  | x :: xs, ys, r, h3, hp => by
    obtain ⟨u, t, rfl, h1, h2⟩ := r
    rw [List.pairwise_cons] at hp
    refine List.Pairwise.cons (fun y hy => ?_) (pw_rvs h2 (fun y hy => h3 y (List.mem_cons_of_mem _ hy)) hp.2)
    obtain ⟨i, hi⟩ := List.getElem?_of_mem hy
    obtain ⟨w, hw, rw⟩ := h2.get hi
    obtain ⟨n1, e1⟩ := Option.isSome_iff_exists.mp (h3 x (List.mem_cons_self ..))
    obtain ⟨n2, e2⟩ := Option.isSome_iff_exists.mp (h3 y (List.mem_cons_of_mem _ hy))
    have z := hp.1 w (List.mem_of_getElem? hw) n1 n2 (tupI_of h1 e1).1 (tupI_of rw e2).1
    unfold code3
    rw [e1, e2]
    exact z
theorem slf_sortUD {K : PySem.W.Frag} : SLF K sortUD (rSortU K 3 1000) := fun ρ m H xs vs ys Q M a e k => by
  unfold sortUD at e
  split at e
  · rename_i x
    split at e
    · rename_i zs hz
      split at e
      · rename_i hc
        cases e
        simp only [Bool.and_eq_true, decide_eq_true_eq, List.all_eq_true] at hc
        obtain ⟨v, t, rfl, h1, h2⟩ := a
        subst h2
        obtain ⟨q, ws, rfl, h3, h4⟩ := lsD_ok M h1 hz
        refine ⟨q, ws, rfl, SqL.of h3, by rw [← h4.length]; exact hc.1, fun w hw => ?_, fun ys p hp hs hn => ?_⟩
        · obtain ⟨i, hi⟩ := List.getElem?_of_mem hw
          have hi' : i < zs.length := by
            rw [h4.length]
            exact getlt hi
          obtain ⟨w', e1, r1⟩ := h4.get (List.getElem?_eq_getElem hi')
          rw [hi] at e1
          cases e1
          obtain ⟨n1, e2⟩ := Option.isSome_iff_exists.mp (hc.2 _ (List.getElem_mem hi'))
          exact ⟨n1, tupI_of r1 e2⟩
        · obtain ⟨xs', p1, r1⟩ := rvs_perm hp h4
          have ha : ∀ x ∈ xs', (tup3 x).isSome = true := fun x hx => hc.2 x (p1.mem_iff.mp hx)
          rw [← usort_eq hc.2 p1 (pw_rvs r1 ha hs)] at k
          exact k ys r1 (by rw [← r1.length, p1.length_eq]; exact Nat.le_trans (Nat.le_of_lt hc.1) (by decide)) p hn
      · cases e
    · cases e
  · cases e
section
variable {X : Cx} {e : Expr} {p pos : Pos} {d : DA}
theorem sl_sortD (hc : X.calm = true) (hg : Gl X "sorted") (hm : X.mg "sorted" = none) (ha : SA X [e] d) (he : starEach [e] X.env = (false, eval e X.env) :: starEach [] X.env := by rfl) : SL X (.Call (.Name "sorted" p) [e] [] pos) (dLF sortKD d) := sl_callB (call_sortedDI hc) slf_sortKD hg hm (by decide +kernel) ha (by decide) (by decide) he rfl
theorem sl_sortU (hc : X.calm = true) (hg : Gl X "sorted") (hm : X.mg "sorted" = none) (ha : SA X [e] d) (he : starEach [e] X.env = (false, eval e X.env) :: starEach [] X.env := by rfl) : SL X (.Call (.Name "sorted" p) [e] [] pos) (dLF sortUD d) := sl_callB (cr_sortT (by decide)) slf_sortUD hg hm (by decide +kernel) ha (by decide) (by decide) he rfl
end
end Z
namespace Z
open PySem PySem.Spec PyProof.Rows L2
section
variable {X : Cx} {a b e : Expr} {es : List Expr} {pos p : Pos} {da db : DE} {d : DA} {c : Str} {f : Addr} {ts : List TD} {k : Nat} {gz : List Vl → List Vl → List Vl} {g : FD}
/-! ### len(o), o an instance of an own class -/
def dLenO (c : Str) (gz : List Vl → List Vl → List Vl) (g : FD) (d : DA) : DE := fun env m => bindR (d env m) fun xs m => match xs with
  | [x] => (match insD m x with
    | some (c', _) => if c' = c then (match g (gz [x] []) m with
      | some (.ok (.int n), m') => if (decide (0 ≤ n) && decide (n < 2 ^ 63)) = true then some (.ok (.int n), m') else none
      | _ => none) else none
    | none => none)
  | _ => none
theorem se_lenO (hg : Gl X "len") (hm : X.mg "len" = none) (O : OwnM X.K c "__len__" f ts) (F : Fz X.prog X.w X.K X.mg X.base k f 1 [] gz g) (hr : Room (k + 1) X.A) (ha : SA X (e :: es) d)
    (he : starEach (e :: es) X.env = (false, eval e X.env) :: starEach es X.env := by rfl) (hpl : (backTo pos (starEach es X.env)).any (·.1) = false := by rfl) : SE X (.Call (.Name "len" p) (e :: es) [] pos) (dLenO c gz g d) := ⟨fun W tk => ⟨fun pins s σ H Q I h => by
  obtain ⟨ρ, env, m, z, m', st, ee, pp⟩ := h
  have h' : rdA X.K W d σ H (fun vs H1 => ∃ q dx gs ρ1 m1 xs n, vs = [.ref q] ∧ H1 q = some (.ins (He.ga X.K c) dx gs) ∧ RM X.K ρ1 m1 H1 ∧ RVs X.K ρ1 H1 xs [.ref q] ∧ xs.length = 1 ∧ g (gz xs []) m1 = some (.ok (.int n), m') ∧ (0 ≤ n ∧ n < 2 ^ 63) ∧ Po X.K ρ1 H1 (RV X.K) (fun c dd H' => W c dd σ H') Q (.ok (.int n)) m') :=
    bindA st ee pp fun xs m1 ρ1 H1 vs s1 E1 r1 e1 p1 => by
      split at e1
      · rename_i x
        split at e1
        · rename_i c' fs hi
          split at e1
          · rename_i hc
            subst hc
            split at e1
            · rename_i n m2 hgn
              split at e1
              · rename_i hn
                cases e1
                rw [Bool.and_eq_true, decide_eq_true_eq, decide_eq_true_eq] at hn
                obtain ⟨v, t, rfl, h1, h2⟩ := r1
                subst h2
                obtain ⟨q, dx, gs, rfl, h3, h4⟩ := insD_ok s1.mem h1 hi
                exact ⟨q, dx, gs, ρ1, m1, [x], n, rfl, h3, s1.mem, ⟨_, _, rfl, h1, rfl⟩, rfl, hgn, hn, p1⟩
              · cases e1
            · cases e1
          · cases e1
        · cases e1
      · cases e1
  refine wpAny_Call_Name_kw (ld_blt I hg hm (show bootBuiltins "len" = some (.builtin "len") by decide +kernel) ?_ (by decide) (by decide))
  refine PyProof.Rows.callWith_builtin1 (thn ((ha.run W tk).run pos pins s σ H _ I h') fun us s1 ⟨vs, H1, I1, rv, q, dx, gs, ρ1, m1, xs, n, ev, hq, M1, rx, hl, hgn, hn, p1⟩ => ?_) he hpl
  subst ev
  obtain ⟨u, rfl, ru⟩ := vals1 rv
  obtain rfl : u = Value.ref q := ru
  obtain ⟨mA, J, _⟩ := ins_get I1.hok hq
  obtain ⟨od, J, _⟩ := J.look
  obtain ⟨m0, hF⟩ := I1.fr
  obtain ⟨fd, ps, gs', gV, h1, h2, h3⟩ := F.ex
  obtain ⟨hl2, rg⟩ := h3 ρ1 H1 xs [.ref q] [] [] hl rfl rx rfl
  have r1 : Vals [V.ref q] [Value.ref q] := .cons rfl .nil
  have r2 := h2.rel r1 (.nil : Vals [] [])
  refine PySem.W.len_K hF I1.ok.mod.kin J O.at_ O.fn (wpAny_call (codeAny_mono (h1.run X.A.in1 X.stack s1 H1 ⟨[.ref q], []⟩ (gs' [.ref q] []) (gV [.ref q] []) (fun v H' => v = .int n ∧ Q (.int n) H') (fun _ _ _ => False) hr.in1 I1.env0.in1 (h2.to _ [.ref q] [] I1.kIn rfl rfl) r2
    ⟨hl2, ρ1, m1, _, _, m', M1, rg, hgn, fun ρ' H' M E v rv => ⟨rv, by
      have e := p1 ρ' H' M E v rv
      rw [show v = V.int n from rv] at e
      exact e⟩⟩) fun r s' hq' => ?_))
  cases r with
  | error er => exact False.elim (passF (X := X) pins σ H1 s1 er s' (I1.wish _) hq')
  | ok fl =>
    cases fl with
    | ret u =>
      obtain ⟨v, H', I3, rv, ev, q3⟩ := I1.after hq'
      subst ev
      obtain ⟨t, rfl⟩ := rv
      exact ⟨hn, ⟨V.int n, H', I3.tok _, ⟨_, rfl⟩, q3⟩⟩
    | next => exact False.elim hq'
    | brk => exact False.elim hq'
    | cont => exact False.elim hq'⟩⟩
@[simp] theorem dLenO_ap {env : Ev} {m : Mem} : dLenO c gz g d env m = bindR (d env m) fun xs m => match xs with
  | [x] => (match insD m x with
    | some (c', _) => if c' = c then (match g (gz [x] []) m with
      | some (.ok (.int n), m') => if (decide (0 ≤ n) && decide (n < 2 ^ 63)) = true then some (.ok (.int n), m') else none
      | _ => none) else none
    | none => none)
  | _ => none := rfl
/-! ### x in o, o an instance of an own class -/
def dInO (neg : Bool) (c : Str) (gz : List Vl → List Vl → List Vl) (g : FD) (da db : DE) : DE := fun env m => bindR (da env m) fun x m => bindR (db env m) fun y m => match insD m y with
  | some (c', _) => if c' = c then (match g (gz [y, x] []) m with
    | some (.ok (.bl r), m') => some (.ok (.bl (if neg then !r else r)), m')
    | _ => none) else none
  | none => none
theorem inO_rd {W : WX} {neg : Bool} {σ : L2.St} {H : Hp} {Q : VK} (h : rdE X.K W (dInO neg c gz g da db) σ H Q) : rdE X.K W da σ H (fun v H1 => rdE X.K W db σ H1 fun u H2 => ∃ q dx gs ρ1 m1 xs r m', u = .ref q ∧ H2 q = some (.ins (He.ga X.K c) dx gs) ∧ RM X.K ρ1 m1 H2 ∧ RVs X.K ρ1 H2 xs [.ref q, v] ∧ xs.length = 2 ∧ g (gz xs []) m1 = some (.ok (.bl r), m') ∧ Po X.K ρ1 H2 (RV X.K) (fun c dd H' => W c dd σ H') Q (.ok (.bl (if neg then !r else r))) m') := by
  obtain ⟨ρ, env, m, z, m', st, ee, pp⟩ := h
  exact bindE st ee pp fun x m1 ρ1 H1 v s1 E1 r1 e1 p1 => bindE s1 e1 p1 fun y m2 ρ2 H2 u s2 E2 r2 e2 p2 => by
    split at e2
    · rename_i c' fs hi
      split at e2
      · rename_i hc
        subst hc
        split at e2
        · rename_i r m3 hgn
          cases e2
          obtain ⟨q, dx, gs, rfl, h3, h4⟩ := insD_ok s2.mem r2 hi
          exact ⟨q, dx, gs, ρ2, m2, [y, x], r, _, rfl, h3, s2.mem, ⟨_, _, rfl, r2, _, _, rfl, r1.mono E2, rfl⟩, rfl, hgn, p2⟩
        · cases e2
      · cases e2
    · cases e2
theorem se_inO (O : OwnM X.K c "__contains__" f ts) (F : Fz X.prog X.w X.K X.mg X.base k f 2 [] gz g) (hr : Room k X.A) (ha : SE X a da) (hb : SE X b db) (hm : behindInMarks .In b = false := by rfl) : SE X (.Compare a [.In] [b] pos) (dInO false c gz g da db) := ⟨fun W tk => ⟨fun pins s σ H Q I h => by
  refine wpAny_Compare1 ?_ hm
  refine thn ((ha.run W tk).run pins s σ H _ I (inO_rd h)) fun v s1 ⟨x, H1, I1, rx, q1⟩ => ?_
  refine thn ((hb.run W tk).run pins s1 σ H1 _ I1 q1) fun u s2 ⟨y, H2, I2, ry, q, dx, gs, ρ1, m1, xs, r, m', ey, hq, M1, rxs, hl, hgn, p1⟩ => ?_
  subst ey
  obtain rfl : u = Value.ref q := ry
  obtain ⟨mA, J, _⟩ := ins_get I2.hok hq
  obtain ⟨od, J, _⟩ := J.look
  obtain ⟨m0, hF⟩ := I2.fr
  refine PySem.W.in_K hF I2.ok.mod.kin J O.at_ O.fn (thn (F.run (Q := fun v H' => v = .bl r ∧ Q (.bl r) H') hr tk (us := [.ref q, v]) (vs := [.ref q, x]) (ws := []) I2 (.cons rfl (.cons rx .nil)) .nil M1 rxs (show RVs X.K ρ1 H2 [] [] from rfl) hl rfl hgn fun ρ' H' M E v rv => ⟨rv, by
      have e := p1 ρ' H' M E v rv
      rw [show v = V.bl r from rv] at e
      exact e⟩) fun w s3 ⟨z, H3, I3, rz, ez, q3⟩ => ?_)
  subst ez
  cases rz
  exact wpAny_pure ⟨V.bl r, H3, I3, rfl, q3⟩⟩⟩
theorem se_notinO (O : OwnM X.K c "__contains__" f ts) (F : Fz X.prog X.w X.K X.mg X.base k f 2 [] gz g) (hr : Room k X.A) (ha : SE X a da) (hb : SE X b db) (hm : behindInMarks .NotIn b = false := by rfl) : SE X (.Compare a [.NotIn] [b] pos) (dInO true c gz g da db) := ⟨fun W tk => ⟨fun pins s σ H Q I h => by
  refine wpAny_Compare1 ?_ hm
  refine thn ((ha.run W tk).run pins s σ H _ I (inO_rd h)) fun v s1 ⟨x, H1, I1, rx, q1⟩ => ?_
  refine thn ((hb.run W tk).run pins s1 σ H1 _ I1 q1) fun u s2 ⟨y, H2, I2, ry, q, dx, gs, ρ1, m1, xs, r, m', ey, hq, M1, rxs, hl, hgn, p1⟩ => ?_
  subst ey
  obtain rfl : u = Value.ref q := ry
  obtain ⟨mA, J, _⟩ := ins_get I2.hok hq
  obtain ⟨od, J, _⟩ := J.look
  obtain ⟨m0, hF⟩ := I2.fr
  refine PySem.W.notIn_K hF I2.ok.mod.kin J O.at_ O.fn (thn (F.run (Q := fun v H' => v = .bl r ∧ Q (.bl (!r)) H') hr tk (us := [.ref q, v]) (vs := [.ref q, x]) (ws := []) I2 (.cons rfl (.cons rx .nil)) .nil M1 rxs (show RVs X.K ρ1 H2 [] [] from rfl) hl rfl hgn fun ρ' H' M E v rv => ⟨rv, by
      have e := p1 ρ' H' M E (.bl (!r)) rfl
      exact e⟩) fun w s3 ⟨z, H3, I3, rz, ez, q3⟩ => ?_)
  subst ez
  cases rz
  exact wpAny_pure ⟨V.bl (!r), H3, I3, rfl, q3⟩⟩⟩
@[simp] theorem dInO_ap {neg : Bool} {env : Ev} {m : Mem} : dInO neg c gz g da db env m = bindR (da env m) fun x m => bindR (db env m) fun y m => match insD m y with
  | some (c', _) => if c' = c then (match g (gz [y, x] []) m with
    | some (.ok (.bl r), m') => some (.ok (.bl (if neg then !r else r)), m')
    | _ => none) else none
  | none => none := rfl
/-! ### o[i], o an instance of an own class -/
def dIxO (c : Str) (gz : List Vl → List Vl → List Vl) (g : FD) (da db : DE) : DE := fun env m => bindR (da env m) fun x m => bindR (db env m) fun y m => match insD m x with
  | some (c', _) => if c' = c then (match g (gz [x, y] []) m with
    | some (.ok v, m') => some (.ok v, m')
    | _ => none) else none
  | none => none
theorem se_ixO (O : OwnM X.K c "__getitem__" f ts) (hfi : PySem.W.fnIn X.K f = true) (F : Fz X.prog X.w X.K X.mg X.base k f 2 [] gz g) (hr : Room (k + 1) X.A) (ha : SE X a da) (hb : SE X b db)
    (hsl : ∀ x i : Value, subscripted b true x i = runValue (.builtin "lifetime.subscript" ⟨[x, i], []⟩) := by intro _ _; with_unfolding_all rfl) : SE X (.Subscript a b pos) (dIxO c gz g da db) := ⟨fun W tk => ⟨fun pins s σ H Q I h => by
  obtain ⟨ρ, env, m, z, m', st, ee, pp⟩ := h
  have h' : rdE X.K W da σ H (fun v H1 => rdE X.K W db σ H1 fun u H2 => ∃ q dx gs ρ1 m1 xs vl, v = .ref q ∧ H2 q = some (.ins (He.ga X.K c) dx gs) ∧ RM X.K ρ1 m1 H2 ∧ RVs X.K ρ1 H2 xs [.ref q, u] ∧ xs.length = 2 ∧ g (gz xs []) m1 = some (.ok vl, m') ∧ Po X.K ρ1 H2 (RV X.K) (fun c dd H' => W c dd σ H') Q (.ok vl) m') :=
    bindE st ee pp fun x m1 ρ1 H1 v s1 E1 r1 e1 p1 => bindE s1 e1 p1 fun y m2 ρ2 H2 u s2 E2 r2 e2 p2 => by
      split at e2
      · rename_i c' fs hi
        split at e2
        · rename_i hc
          subst hc
          split at e2
          · rename_i vl m3 hgn
            cases e2
            obtain ⟨q, dx, gs, rfl, h3, h4⟩ := insD_ok s2.mem (r1.mono E2) hi
            exact ⟨q, dx, gs, ρ2, m2, [x, y], vl, rfl, h3, s2.mem, ⟨_, _, rfl, r1.mono E2, _, _, rfl, r2, rfl⟩, rfl, hgn, p2⟩
          · cases e2
        · cases e2
      · cases e2
  refine Subscript_ (thn ((ha.run W tk).run pins s σ H _ I h') fun v s1 ⟨x, H1, I1, rx, q1⟩ => thn ((hb.run W tk).run pins s1 σ H1 _ I1 q1) fun u s2 ⟨y, H2, I2, ry, q, dx, gs, ρ1, m1, xs, vl, ex, hq, M1, rxs, hl, hgn, p1⟩ => ?_)
  subst ex
  obtain rfl : v = Value.ref q := rx
  obtain ⟨mA, J, _⟩ := ins_get I2.hok hq
  obtain ⟨od, J, _⟩ := J.look
  obtain ⟨m0, hF⟩ := I2.fr
  obtain ⟨fd, ps, gs', gV, h1, h2, h3⟩ := F.ex
  obtain ⟨hl2, rg⟩ := h3 ρ1 H2 xs [.ref q, y] [] [] hl rfl rxs rfl
  have r1 : Vals [V.ref q, y] [Value.ref q, u] := .cons rfl (.cons ry .nil)
  have r2 := h2.rel r1 (.nil : Vals [] [])
  refine PySem.W.sub_K hF I2.ok.mod.kin J O.at_ hfi O.fn (wpAny_call (codeAny_mono (h1.run X.A.in1 X.stack s2 H2 ⟨[.ref q, u], []⟩ (gs' [.ref q, u] []) (gV [.ref q, y] []) Q (fun _ _ _ => False) hr.in1 I2.env0.in1 (h2.to _ [.ref q, u] [] I2.kIn rfl rfl) r2
    ⟨hl2, ρ1, m1, _, _, m', M1, rg, hgn, fun ρ' H' M E v rv => p1 ρ' H' M E v rv⟩) fun r s' hq' => ?_)) (hsl _ _)
  cases r with
  | error er => exact False.elim (passF (X := X) pins σ H2 s2 er s' (I2.wish _) hq')
  | ok fl =>
    cases fl with
    | ret u => exact I2.after hq'
    | next => exact False.elim hq'
    | brk => exact False.elim hq'
    | cont => exact False.elim hq'⟩⟩
@[simp] theorem dIxO_ap {env : Ev} {m : Mem} : dIxO c gz g da db env m = bindR (da env m) fun x m => bindR (db env m) fun y m => match insD m x with
  | some (c', _) => if c' = c then (match g (gz [x, y] []) m with
    | some (.ok v, m') => some (.ok v, m')
    | _ => none) else none
  | none => none := rfl
end
end Z
namespace Z
open PySem PySem.Spec PyProof.Rows L2
/-! ### != of a class that has == alone -/
structure OwnN (K : PySem.W.Frag) (c : Str) (f : Addr) (ts : List TD) : Prop where
  eq : OwnM K c "__eq__" f ts
  ne : PySem.W.findIn K (.ref (He.ga K c)) "__ne__" = some (some (.builtin "object.__ne__"))
  ob : PySem.W.mroIn K (He.ga K c) (.type "object") = some true
def ckNeE (c : Str) (ts : List TD) : Ck := fun K => ckOwn c "__eq__" ts K && (He.eqO (PySem.W.findIn K (.ref (He.ga K c)) "__ne__") (some (some (.builtin "object.__ne__"))) && decide (PySem.W.mroIn K (He.ga K c) (.type "object") = some true))
theorem ckNeE_ok {K : PySem.W.Frag} {c : Str} {ts : List TD} (h : ckNeE c ts K = true) : OwnN K c (He.ma K (He.ga K c) "__eq__") ts := by
  unfold ckNeE at h
  rw [Bool.and_eq_true, Bool.and_eq_true, decide_eq_true_eq] at h
  exact ⟨ckOwn_ok h.1, He.eqO_ok h.2.1, h.2.2⟩
theorem ifBound_ne {M : Model} {A : Around} {E : Value → Shared → Prop} {s : Shared} {K : PySem.W.Frag} {x C : Addr} {ox : Obj} {od : Option Obj} {args : List Value} {Q : Option Value → Shared → Prop} (X : K.In s.heap) (I : PySem.W.InstAt s.heap x ox C od)
    (hf : PySem.W.findIn K (.ref C) (Str.ofString "__ne__") = some (some (.builtin "object.__ne__"))) (h : wpAny M A (call (.builtin "object.__ne__") (.ref x :: args)) (fun v => Q (some v)) E s) : wpAny M A (callSpecialIfBound? (.ref x) (Str.ofString "__ne__") args) Q E s := by
  have b : ∀ E' : Value → Shared → Prop, wpAny M A (bindSpecial (.builtin "object.__ne__") (.ref x) >>= fun r => pure (some r)) (fun r s' => r = some (.builtin "object.__ne__", [.ref x]) ∧ s' = s) E' s := fun E' =>
    wpAny_bind (wpAny_of_eq (F.cmp_object.ne.bind _) (wpAny_pure ⟨rfl, rfl⟩))
  have go : wpAny M A (bindSpecialIfBound? (.ref x) (Str.ofString "__ne__")) (fun r s' => r = some (.builtin "object.__ne__", [.ref x]) ∧ s' = s) E s := by
    unfold bindSpecialIfBound? specialOf
    refine wpAny_bind (wpAny_bind (I.type.here ((PySem.W.looks_findIn X hf).here ?_)))
    refine wpAny_bind (wpAny_askSetting ?_)
    split
    · exact b _
    · exact wpAny_tryCatch (b _)
  unfold callSpecialIfBound?
  refine wpAny_holding (wpAny_bind (wpAny_mono go ?_ fun _ _ h => h))
  rintro r s' ⟨rfl, rfl⟩
  exact wpAny_bind (wpAny_mono h (fun v s' hv => wpAny_pure hv) fun _ _ e => e)
/-- the entry: __eq__ asked, turned round -/
theorem entry_ne {M : Model} {A : Around} {E : Value → Shared → Prop} {s : Shared} {K : PySem.W.Frag} {x C f : Addr} {ox : Obj} {od : Option Obj} {b : Value} {Q : Fin → Shared → Prop} (X : K.In s.heap) (I : PySem.W.InstAt s.heap x ox C od) (hu : A.units < cLine)
    (hs : PySem.W.findIn K (.ref C) (Str.ofString "__eq__") = some (some (.ref f))) (hf : PySem.W.isFn K (.ref f) = true) (h : wpAny M A (call (.ref f) [.ref x, b]) (fun v s' => ∃ c, v = .bool c ∧ Q (.done (.ret (.bool !c))) s') E s) :
    wpAny M A (Builtin.«object.__ne__» { pos := [.ref x, b] }) Q E s := by
  unfold Builtin.«object.__ne__»
  refine wpAny_bind ?_
  have sl : slotArgs "__ne__" 1 { pos := [.ref x, b] } = pure (.ref x, [b]) := rfl
  refine wpAny_of_eq sl ?_
  refine wpAny_bind (wpAny_cRoomFor hu (wpAny_bind (PySem.W.ifBound_K X I hs hf (wpAny_mono h ?_ fun _ _ e => e))))
  rintro r s' ⟨c, rfl, hq⟩
  exact wpAny_bind (wpAny_pure (wpAny_pure hq))
theorem call_ne {prog : Program} {w : World} {A : Around} {E : Value → Shared → Prop} {s : Shared} {K : PySem.W.Frag} {x C f : Addr} {ox : Obj} {od : Option Obj} {b : Value} {Q : Value → Shared → Prop} (X : K.In s.heap) (I : PySem.W.InstAt s.heap x ox C od) (hu : A.in1.units < cLine)
    (hm : PySem.W.mroIn K C (.type "object") = some true) (hs : PySem.W.findIn K (.ref C) (Str.ofString "__eq__") = some (some (.ref f))) (hf : PySem.W.isFn K (.ref f) = true) (h : wpAny (model prog w) A.in1 (call (.ref f) [.ref x, b]) (fun v s' => ∃ c, v = .bool c ∧ Q (.bool !c) s') E s) :
    wpAny (model prog w) A (call (.builtin "object.__ne__") [.ref x, b]) Q E s :=
  wpAny_call (codeAny_call_builtin F.cmp_object.ne.plain F.cmpEntry_ne (PySem.W.check_slot F.cmpKind_ne F.cmpSplit_ne (PySem.W.Looks.andThen I.type (PySem.W.looks_mroIn X hm)) (F.cmpArgs_ne _ _) (entry_ne X I hu hs hf h)))
theorem cmp_ne {prog : Program} {w : World} {A : Around} {E : Value → Shared → Prop} {s : Shared} {K : PySem.W.Frag} {x C L f : Addr} {h₀ : Heap} {m : Str → Option Value} {ox : Obj} {od : Option Obj} {b tb : Value} {Q : Value → Shared → Prop} (hu : A.in1.units < cLine) (hu0 : A.units < cLine)
    (F : Fr h₀ L s.heap m) (X₀ : K.In h₀) (I : PySem.W.InstAt s.heap x ox C od) (hb : PySem.W.Looks (model prog w) s.heap (typeOf b) tb) (hn : PySem.W.notFirst K C tb = true)
    (hne : PySem.W.findIn K (.ref C) (Str.ofString "__ne__") = some (some (.builtin "object.__ne__"))) (hm : PySem.W.mroIn K C (.type "object") = some true) (hs : PySem.W.findIn K (.ref C) (Str.ofString "__eq__") = some (some (.ref f))) (hf : PySem.W.isFn K (.ref f) = true)
    (h : wpAny (model prog w) A.in1 (call (.ref f) [.ref x, b]) (fun v s' => ∃ c, v = .bool c ∧ Q (.bool !c) s') E s) : wpAny (model prog w) A (richCompare .NotEq (.ref x) b) Q E s := by
  have X := X₀.keeps F.keep
  have one : wpAny (model prog w) A (tryCompare (.ref x) (Str.ofString "__ne__") b) (fun r s' => ∃ v, r = some v ∧ Q v s') E s := by
    unfold tryCompare
    refine wpAny_bind (ifBound_ne X I hne (call_ne X I hu hm hs hf (wpAny_mono h ?_ fun _ _ e => e)))
    rintro v s' ⟨c, rfl, hq⟩
    exact ⟨c, rfl, wpAny_pure ⟨_, rfl, hq⟩⟩
  unfold richCompare
  refine wpAny_holding (wpAny_bind (wpAny_cRoomFor hu0 ?_))
  show wpAny _ _ (typeOf (.ref x) >>= _) _ _ _
  refine wpAny_bind (I.type.here (wpAny_bind (hb.here ?_)))
  by_cases hc : (Value.ref C != tb) = true
  · have hn' : PySem.W.subIn K tb (.ref C) = some false := by
      unfold PySem.W.notFirst at hn
      rw [Bool.or_eq_true] at hn
      rcases hn with hn | hn
      · have e : tb = Value.ref C := beq_iff_eq.mp hn
        rw [e] at hc
        simp at hc
      · exact beq_iff_eq.mp hn
    simp only [hc, if_true]
    refine wpAny_bind ((PySem.W.looks_subIn X hn').here ?_)
    simp only [Bool.false_eq_true, if_false]
    refine wpAny_bind (wpAny_mono one ?_ fun _ _ e => e)
    rintro r s' ⟨v, rfl, hq⟩
    exact wpAny_pure hq
  · simp only [hc, if_false, Bool.false_eq_true]
    refine wpAny_bind (wpAny_pure ?_)
    simp only [Bool.false_eq_true, if_false]
    refine wpAny_bind (wpAny_mono one ?_ fun _ _ e => e)
    rintro r s' ⟨v, rfl, hq⟩
    exact wpAny_pure hq
section
variable {X : Cx} {c : Str} {f : Addr} {ts : List TD} {k : Nat} {gz : List Vl → List Vl → List Vl} {g : FD} {cs : List Str} {a b : Expr} {da db : DE} {pos : Pos}
def dCmpN (c : Str) (cs : List Str) (ts : List TD) (gz : List Vl → List Vl → List Vl) (g : FD) (da db : DE) : DE := fun env m => bindR (da env m) fun x m => bindR (db env m) fun y m => match insD m x, tyD m y with
  | some (c', _), some t => if (decide (c' = c) && (ts.contains t && tdOk cs t)) = true then (match g (gz [x, y] []) m with
    | some (.ok (.bl r), m') => some (.ok (.bl (!r)), m')
    | some (.ex c fs, m') => some (.ex c fs, m')
    | _ => none) else none
  | _, _ => none
theorem rc_neE {A : Around} {E : Value → Shared → Prop} (hI : InsA X.K cs) (O : OwnN X.K c f ts) (F : Fz X.prog X.w X.K X.mg X.base k f 2 [] gz g) (sb : Sub X (k + 1) A) {pins : List (Addr × Obj)} {σ : L2.St} {H : Hp} {s : Shared} {Q : Value → Shared → Prop} {EE : XK}
    {u : Value} {y : V} {q dx : Addr} {gs : List (Str × V)} {ρ : Lay} {m m' : Mem} {xv yv : Vl} {r : R Vl} {t : TD} (I : Inv X pins σ H s) (hq : H q = some (.ins (He.ga X.K c) dx gs)) (ry : RelV y u) (M : RM X.K ρ m H) (rx : RV X.K ρ H xv (.ref q)) (ryv : RV X.K ρ H yv y)
    (ht : tyD m yv = some t) (hts : ts.contains t = true) (htc : tdOk cs t = true) (e : g (gz [xv, yv] []) m = some (r, m')) (hb : match r with
      | .ok z => ∃ b, z = .bl b
      | _ => True) (hE : ∀ e s', L2.CX X.prog X.w X.stack H s EE e s' → E e s')
    (p : ∀ ρ' H', RM X.K ρ' m' H' → Ext ρ H ρ' H' → match r with
      | .ok z => ∀ b, z = .bl b → ∀ s', Inv X pins σ H' s' → Q (.bool !b) s'
      | .ex c fs => ∀ dd, XD X.K ρ' H' dd fs → EE (.ref (He.ga X.K c)) dd H') : wpAny (model X.prog X.w) A (richCompare .NotEq (.ref q) u) Q E s := by
  obtain ⟨fd, ps, gs', gV, h1, h2, h3⟩ := F.ex
  obtain ⟨mA, J, _⟩ := ins_get I.hok hq
  obtain ⟨od, J, _⟩ := J.look
  obtain ⟨m0, hF⟩ := I.fr
  obtain ⟨P, kx, hP, _⟩ := kit_of I ry (tyD_ok hI M ryv ht htc)
  have hl := kx.ty (model X.prog X.w) s.heap I.kIn hP
  have sb1 := sb.in1
  refine cmp_ne (tb := t.val X.K) sb1.room.units0 sb.room.units0 hF I.ok.mod.kin J hl (O.eq.nf t (by simpa using hts)) O.ne O.ob O.eq.at_ O.eq.fn ?_
  have e0 : Env0 X.prog X.w X.K X.mg X.base A.in1 X.stack s H := by
    have e := I.env0
    exact ⟨by rw [sb1.fr]; exact e.frames, e.mod, e.bs, e.bsz, e.funs, e.frf, e.hok, e.bare⟩
  obtain ⟨hl2, rg⟩ := h3 ρ H [xv, yv] [.ref q, y] [] [] rfl rfl ⟨_, _, rfl, rx, _, _, rfl, ryv, rfl⟩ rfl
  have r1 : Vals [V.ref q, y] [Value.ref q, u] := .cons rfl (.cons ry .nil)
  have r2 := h2.rel r1 (.nil : Vals [] [])
  refine wpAny_call (codeAny_mono (h1.run A.in1 X.stack s H ⟨[.ref q, u], []⟩ (gs' [.ref q, u] []) (gV [.ref q, y] []) (fun v H' => ∃ ρ' z, r = .ok z ∧ RM X.K ρ' m' H' ∧ Ext ρ H ρ' H' ∧ RV X.K ρ' H' z v) EE sb1.room e0 (h2.to s [.ref q, u] [] I.kIn rfl rfl) r2 ⟨hl2, ρ, m, _, r, m', M, rg, e, fun ρ' H' M' E' => ?_⟩) fun rr s' hq' => ?_)
  · have pp := p ρ' H' M' E'
    cases r with
    | ok z => exact fun v rv => ⟨ρ', z, rfl, M', E', rv⟩
    | ex c fs => exact pp
  · cases rr with
    | error er => exact hE er s' hq'
    | ok fl =>
      cases fl with
      | ret w =>
        obtain ⟨v, H', I', rv, ρ', z, rfl, M', E', rz⟩ := I.after hq'
        obtain ⟨b, rfl⟩ := hb
        have pp := p ρ' H' M' E' b rfl s' I'
        have hv : v = .bl b := rz
        subst hv
        have hw : w = .bool b := rv
        subst hw
        exact ⟨b, rfl, pp⟩
      | next => exact False.elim hq'
      | brk => exact False.elim hq'
      | cont => exact False.elim hq'
theorem se_neE (hI : InsA X.K cs) (O : OwnN X.K c f ts) (F : Fz X.prog X.w X.K X.mg X.base k f 2 [] gz g) (hr : Room (k + 1) X.A) (ha : SE X a da) (hb : SE X b db) (hm : behindInMarks .NotEq b = false := by exact nomark _) :
    SE X (.Compare a [.NotEq] [b] pos) (dCmpN c cs ts gz g da db) := ⟨fun W tk => ⟨fun pins s σ H Q I h => by
  obtain ⟨ρ, env, m, z, m', st, ee, pp⟩ := h
  refine wpAny_Compare1 ?_ hm
  have h' : rdE X.K W da σ H (fun v H1 => rdE X.K W db σ H1 fun u H2 => ∃ q dx gs ρ' m1 xv yv t r, v = .ref q ∧ H2 q = some (.ins (He.ga X.K c) dx gs) ∧ RM X.K ρ' m1 H2 ∧ RV X.K ρ' H2 xv v ∧ RV X.K ρ' H2 yv u ∧ tyD m1 yv = some t ∧ ts.contains t = true ∧ tdOk cs t = true ∧ g (gz [xv, yv] []) m1 = some (r, m') ∧ (match r with
      | .ok rr => ∃ b, rr = .bl b ∧ z = .ok (.bl (!b))
      | .ex c fs => z = .ex c fs) ∧ Po X.K ρ' H2 (RV X.K) (fun c dd H' => W c dd σ H') Q z m') :=
    bindE st ee pp fun x m1 ρ1 H1 v s1 E1 r1 e1 p1 => bindE s1 e1 p1 fun y m2 ρ2 H2 u s2 E2 r2 e2 p2 => by
      split at e2
      · rename_i c' fs t hi ht
        split at e2
        · rename_i hc
          rw [Bool.and_eq_true, Bool.and_eq_true, decide_eq_true_eq] at hc
          obtain ⟨rfl, hc1, hc2⟩ := hc
          obtain ⟨q, dx, gs, rfl, h3, h4⟩ := insD_ok s2.mem (r1.mono E2) hi
          split at e2
          · rename_i rb m3 hg
            cases e2
            exact ⟨q, dx, gs, ρ2, m2, x, y, t, _, rfl, h3, s2.mem, r1.mono E2, r2, ht, hc1, hc2, hg, ⟨rb, rfl, rfl⟩, p2⟩
          · rename_i cc ff m3 hg
            cases e2
            exact ⟨q, dx, gs, ρ2, m2, x, y, t, _, rfl, h3, s2.mem, r1.mono E2, r2, ht, hc1, hc2, hg, rfl, p2⟩
          · cases e2
        · cases e2
      · cases e2
  refine thn ((ha.run W tk).run pins s σ H _ I h') fun v s1 ⟨x, H1, I1, rx, q1⟩ => ?_
  refine thn ((hb.run W tk).run pins s1 σ H1 _ I1 q1) fun u s2 ⟨y, H2, I2, ry, q, dx, gs, ρ2, m2, xv, yv, t, r, ex, hq, M2, rxv, ryv, ht, hts, htc, eg, hz, p2⟩ => ?_
  subst ex
  obtain rfl : v = Value.ref q := rx
  refine PySem.W.cmp_ofNotEq ?_
  refine rc_neE (EE := fun c dd H' => W c dd σ H') hI O F ⟨hr, rfl⟩ I2 hq ry M2 rxv ryv ht hts htc eg (by
    cases r with
    | ok rr =>
      obtain ⟨b, h1, _⟩ := hz
      exact ⟨b, h1⟩
    | ex c fs => trivial) (fun er s' hx => tk er s' (XE.of_call I2 (fun _ _ _ h => h) hx)) fun ρ' H' M' E' => ?_
  have p3 := p2 ρ' H' M' E'
  cases r with
  | ok rr =>
    obtain ⟨b, rfl, rfl⟩ := hz
    intro b' hb' s' I'
    cases hb'
    exact ⟨.bl (!b), H', I', rfl, p3 _ rfl⟩
  | ex c fs =>
    subst hz
    exact p3⟩⟩
end
end Z
namespace Z
open PySem PySem.Spec PyProof.Rows L2
/-! ### a, b = a list -/
theorem isList_but {h h' : Heap} {l it : Addr} {its : Array Value} (a : h.IsList l its) (hne : l ≠ it) (k : ∀ b, b ≠ it → h'.get? b = h.get? b) : h'.IsList l its := by
  obtain ⟨o, h1, h2⟩ := a
  exact ⟨o, by rw [k l hne]; exact h1, h2⟩
theorem draw_list {prog : Program} {w : World} {A : Around} {E : Value → Shared → Prop} {it l : Addr} {items : Array Value} (hne : l ≠ it) : ∀ (n i : Nat) (s : Shared) (Q : List Value → Shared → Prop), s.heap.IsListIter it l i → s.heap.IsList l items → i + n ≤ items.size →
    (∀ h' : Heap, h'.IsListIter it l (i + n) → Heap.SameBut it s.heap h' → Q ((items.toList.drop i).take n) { heap := h', gens := s.gens, drawn := s.drawn, toks := s.toks, os := s.os }) → wpAny (model prog w) A (draw (.ref it) n) Q E s
  | 0, i, s, Q, h1, h2, h3, hq => by
    rw [draw.eq_1]
    refine wpAny_pure ?_
    rw [List.take_zero] at hq
    exact hq s.heap h1 ⟨rfl, fun _ _ => rfl⟩
  | n + 1, i, s, Q, h1, h2, h3, hq => by
    have hi : i < items.size := by omega
    rw [draw.eq_2]
    refine wpAny_bind (wpAny_pyNext_list_item h1 h2 (x := items[i]) (by rw [Array.getElem?_eq_getElem hi]) fun h' a1 a2 => ?_)
    refine wpAny_bind (wpAny_holding (draw_list hne n (i + 1) _ _ a1 (isList_but h2 hne a2.2) (by omega) fun h2' b1 b2 => ?_))
    refine wpAny_pure ?_
    have e : (items.toList.drop i).take (n + 1) = items[i] :: (items.toList.drop (i + 1)).take n := by
      rw [List.drop_eq_getElem_cons (by simpa using hi)]
      simp
    rw [← e]
    refine hq h2' (by rw [show i + (n + 1) = i + 1 + n by omega]; exact b1) ⟨b2.1.trans a2.1, fun b hb => (b2.2 b hb).trans (a2.2 b hb)⟩
theorem unpackItems_list {prog : Program} {w : World} {A : Around} {E : Value → Shared → Prop} {s : Shared} {l : Addr} {items : Array Value} {Q : List Value → Shared → Prop} (hh : A.handled = none) (hl : s.heap.IsList l items) (hT : s.TypeIs (.ref l) "list")
    (hq : ∀ h' : Heap, Heap.ExtBut s.heap.objs.size s.heap h' → Q items.toList { heap := h', gens := s.gens, drawn := s.drawn, toks := s.toks, os := s.os }) : wpAny (model prog w) A (unpackItems (.ref l) items.size none) Q E s := by
  have hne : l ≠ s.heap.objs.size := by
    obtain ⟨o, ho, _⟩ := hl
    exact Nat.ne_of_lt (Heap.lt_size ho)
  unfold unpackItems
  refine wpAny_bind ?_
  have ni : wpAny (model prog w) A (notIterableAtAll (.ref l)) (fun r s' => r = false ∧ s' = s) E s := by
    unfold notIterableAtAll
    refine wpAny_bind (wpAny_specialOf hT F.slot_list_iter.lookup ?_)
    simp only [Option.isSome_some, if_true]
    exact wpAny_pure ⟨rfl, rfl⟩
  refine wpAny_mono ni ?_ fun _ _ e => e
  rintro r s' ⟨rfl, rfl⟩
  simp only [Bool.false_eq_true, if_false]
  refine wpAny_bind (wpAny_holding (wpAny_pyIter_list hl ?_))
  let o : Obj := { cls := Value.type "list_iterator", data := Data.fields #[Value.ref l, Value.int 0 0] }
  have i0 : (s'.heap.push o).IsListIter s'.heap.objs.size l 0 := ⟨o, Heap.get?_push_size s'.heap rfl, rfl, rfl⟩
  have l0 : (s'.heap.push o).IsList l items := by
    obtain ⟨x, hx, h2⟩ := hl
    exact ⟨x, Heap.get?_push_of_some o hx, h2⟩
  refine wpAny_bind (wpAny_holding (draw_list hne items.size 0 _ _ i0 l0 (by omega) fun h' a1 a2 => ?_))
  have e : (items.toList.drop 0).take items.size = items.toList := by
    rw [List.drop_zero]
    exact List.take_of_length_le (by simp)
  rw [e]
  have ln : ¬ items.toList.length < items.size := by simp
  rw [if_neg ln]
  refine wpAny_bind (wpAny_holding (wpAny_pyNext_list_end hh a1 (isList_but l0 hne a2.2) (by simp) fun h2 b1 => ?_))
  simp only [Option.isSome_none, Bool.false_eq_true, if_false]
  refine wpAny_pure (hq h2 fun b x hb hx => b1 b x hb ?_)
  rw [a2.2 b hb]
  exact Heap.get?_push_of_some o hx
theorem assign_list {prog : Program} {w : World} {A : Around} {E : Value → Shared → Prop} {s : Shared} {env : Env} {elts : List PySem.Expr} {x1 : Nat} {pos : Pos} {l : Addr} {items : Array Value} {Q : Unit → Shared → Prop} (hh : A.handled = none) (hl : s.heap.IsList l items) (hT : s.TypeIs (.ref l) "list")
    (hn : (assignEach elts env).length = items.size) (hst : (assignEach elts env).findIdx? (·.1) = none)
    (hq : ∀ h' : Heap, Heap.ExtBut s.heap.objs.size s.heap h' → wpAny (model prog w) A (assignInOrder ((assignEach elts env).map (·.2)) items.toList) Q E { heap := h', gens := s.gens, drawn := s.drawn, toks := s.toks, os := s.os }) :
    wpAny (model prog w) A (assign (.Tuple elts x1 pos) env (.ref l)) Q E s := by
  rw [assign_Tuple]
  refine wpAny_bind (wpAny_standAt ?_)
  unfold unpack
  rw [hn, hst]
  exact wpAny_bind (wpAny_holding (unpackItems_list hh hl hT hq))
def gLst (K : PySem.W.Frag) (n : Nat) (t : TGs) : TG := fun v σ H Q => ∃ a xs, v = .ref a ∧ SqL K H a xs ∧ xs.length = n ∧ t xs σ H Q
theorem plainL_ty {s : Shared} {a : Addr} {its : Array Value} (h : PlainL s.heap a its) : s.TypeIs (.ref a) "list" := by
  obtain ⟨o, n, h1, h2, h3, h4⟩ := h
  exact ⟨o, h1, h2⟩
theorem pg_lst {X : Cx} {pos : Pos} {es : List PySem.Expr} {k : Nat} {t : TGs} {n : Nat} (hc : X.calm = true) (h : PGs X es t) (hn : (assignEach es X.env).length = n) (hst : (assignEach es X.env).findIdx? (·.1) = none) : PG X (.Tuple es k pos) (gLst X.K n t) := ⟨fun pins s σ H v u Q I r hw => by
  obtain ⟨a, xs, rfl, hq, hl, hw⟩ := hw
  obtain rfl : u = Value.ref a := r
  obtain ⟨its, rv, pl, hz⟩ := I.list hq
  refine assign_list (I.ok.hd hc) pl.isList (plainL_ty pl) (by rw [hn, ← hl, rv.length]; simp) hst fun h' hx => ?_
  have I1 : L2.Inv X pins σ H { heap := h', gens := s.gens, drawn := s.drawn, toks := s.toks, os := s.os } := I.kept fun b o e => hx b o (Nat.ne_of_lt (Heap.lt_size e)) e
  exact h.run pins _ σ H xs its.toArray.toList Q I1 (by simpa using rv) hw⟩
section
variable {X : Cx} {pos : Pos}
/-- a, b = a list that lies in a cell, or a list -/
def gLstD (ds : List Vl → Ev → Mem → Option (Ev × Mem)) : DG := fun x env m => match lsD m x with
  | some xs => ds xs env m
  | none => none
theorem sg_lst {es : List PySem.Expr} {k n : Nat} {ds : List Vl → Ev → Mem → Option (Ev × Mem)} (hc : X.calm = true) (h : SGs X es ds) (hl : GsLen ds n)
    (hn : (assignEach es X.env).length = n := by rfl) (hst : (assignEach es X.env).findIdx? (·.1) = none := by rfl) : SG X (.Tuple es k pos) (gLstD ds) := ⟨fun W tk => impPG (pg_lst hc (h.run W tk) hn hst) fun v σ H Q ⟨ρ, env, m, x, env', m', s, r, e, p⟩ => by
  unfold gLstD at e
  split at e
  · rename_i xs hx
    obtain ⟨a, vs, rfl, h1, h2⟩ := lsD_ok s.mem r hx
    exact ⟨a, vs, rfl, SqL.of h1, by rw [← h2.length]; exact hl _ _ _ _ e, ρ, env, m, xs, env', m', s, h2, e, p⟩
  · cases e⟩
@[simp] theorem gLstD_ap {ds : List Vl → Ev → Mem → Option (Ev × Mem)} {x : Vl} {env : Ev} {m : Mem} : gLstD ds x env m = match lsD m x with
  | some xs => ds xs env m
  | none => none := rfl
end
end Z
namespace Z
open PySem PySem.Spec PyProof.Rows L2
/-! ### iteration by an own __iter__ that says iter(a tuple) -/
theorem isTupIter_of {h : Heap} {it a : Addr} {i : Nat} (x : IsTupIter h it a i) : h.IsTupleIter it a i := x
theorem call_iter_tup {prog : Program} {w : World} {A : Around} {E : Value → Shared → Prop} {s : Shared} {t : Addr} {items : Array Value} {Q : Value → Shared → Prop} (ht : IsTup s.heap t items)
    (hq : Q (.ref s.heap.objs.size) { heap := s.heap.push { cls := Value.type "tuple_iterator", data := Data.fields #[Value.ref t, Value.int 0 0] }, gens := s.gens, drawn := s.drawn, toks := s.toks, os := s.os }) :
    wpAny (model prog w) A (call (.builtin "iter") [.ref t]) Q E s := by
  refine PySem.Calls.call_function_entry PySem.W.kdk_iter._proof_1_1 PySem.W.kdk_iter._proof_1_2 PySem.W.kdk_entry_iter (PySem.W.kdk_args_iter _) ?_
  unfold Builtin.iter
  have sa : someArgs "iter" 1 2 { pos := [.ref t] } = pure [.ref t] := rfl
  refine wpAny_bind (wpAny_of_eq sa ?_)
  refine wpAny_bind (iter_tuple ht ?_)
  exact wpAny_pure ⟨_, rfl, hq⟩
theorem bind_own {M : Model} {A : Around} {E : Value → Shared → Prop} {s : Shared} {K : PySem.W.Frag} {x C f : Addr} {ox : Obj} {od : Option Obj} {name : Str} (X : K.In s.heap) (I : PySem.W.InstAt s.heap x ox C od)
    (hs : PySem.W.findIn K (.ref C) name = some (some (.ref f))) (hf : PySem.W.isFn K (.ref f) = true) : wpAny M A (bindSpecialIfBound? (.ref x) name) (fun r s' => r = some (.ref f, [.ref x]) ∧ s' = s) E s := by
  have ty : PySem.W.typeIn K (.ref f) = some (.type "function") := by
    unfold PySem.W.isFn at hf
    exact beq_iff_eq.mp hf
  have b : ∀ E' : Value → Shared → Prop, wpAny M A (bindSpecial (.ref f) (.ref x) >>= fun r => pure (some r)) (fun r s' => r = some (.ref f, [.ref x]) ∧ s' = s) E' s := fun E' =>
    wpAny_bind ((PySem.W.bind_fn X (.ref x) ty).here (wpAny_pure ⟨rfl, rfl⟩))
  unfold bindSpecialIfBound? specialOf
  refine wpAny_bind (wpAny_bind (I.type.here ((PySem.W.looks_findIn X hs).here ?_)))
  refine wpAny_bind (wpAny_askSetting ?_)
  split
  · exact b _
  · exact wpAny_tryCatch (b _)
/-- iter(x) of an own class, told by what its __iter__ answers -/
theorem pyIter_own {M : Model} {A : Around} {E : Value → Shared → Prop} {s : Shared} {K : PySem.W.Frag} {x C f : Addr} {ox : Obj} {od : Option Obj} {Q : Value → Shared → Prop} (X : K.In s.heap) (I : PySem.W.InstAt s.heap x ox C od)
    (hs : PySem.W.findIn K (.ref C) (Str.ofString "__iter__") = some (some (.ref f))) (hf : PySem.W.isFn K (.ref f) = true) (h : wpAny M A (call (.ref f) [.ref x]) (fun v s' => s'.TypeIs v "tuple_iterator" ∧ Q v s') E s) : wpAny M A (pyIter (.ref x)) Q E s := by
  unfold pyIter
  refine wpAny_bind ?_
  unfold specialOf
  refine wpAny_bind (I.type.here ((PySem.W.looks_findIn X hs).here ?_))
  refine wpAny_bind ?_
  unfold callSpecialIfBoundUnlessNone?
  refine wpAny_holding (wpAny_bind (wpAny_mono (bind_own X I hs hf) ?_ fun _ _ e => e))
  rintro r s' ⟨rfl, rfl⟩
  have hn : ((Value.ref f == Value.none) = true) = False := by simp
  simp only [hn, if_false]
  refine wpAny_bind (wpAny_mono h ?_ fun _ _ e => e)
  rintro v s2 ⟨ty, hq⟩
  refine wpAny_pure ?_
  refine wpAny_bind (wpAny_specialOf ty F.slot_tuple_iterator_next.lookup ?_)
  exact wpAny_pure hq
section
variable {P : Program} {w : World} {K : PySem.W.Frag} {mg : Str → Option Value} {base : Heap} {x qual : Str} {params : Arguments} {scope : Scope} {dvs : List V} {kws : List (Str × V)} {f : Addr} {fd : FuncData} {p pos pos2 : Pos} {e : Expr} {dx : DE} {k : Nat} {c : Str}
/-- what such an __iter__ leaves -/
def ItR (P : Program) (w : World) (K : PySem.W.Frag) (outer : List Env) (s : Shared) (H : Hp) (ρ : Lay) (m : Mem) (xs : List Vl) (E : XK) : Result → Shared → Prop
  | .ok (.ret u), s' => ∃ it a, u = .ref it ∧ IsTupIter s'.heap it a 0 ∧ s.heap.objs.size ≤ it ∧ CE outer P w H s (fun v H' => v = .ref it ∧ H' it = none ∧ ∃ ρ' vs, RM K ρ' m H' ∧ Ext ρ H ρ' H' ∧ SqT K H' a vs ∧ (∀ ρ2 H2, Ext ρ' H' ρ2 H2 → SqT K H2 a vs) ∧ RVs K ρ' H' xs vs) (.ref it) s'
  | .ok _, _ => False
  | .error er, s' => L2.CX P w outer H s E er s'
structure ItF (P : Program) (w : World) (K : PySem.W.Frag) (mg : Str → Option Value) (base : Heap) (k : Nat) (f : Addr) (dx : DE) : Prop where
  run : ∀ (A : Around) (outer : List Env) (s : Shared) (H : Hp) (q : Addr) (ρ : Lay) (m : Mem) (xv : Vl) (xs : List Vl) (E : XK), Room k A → Env0 P w K mg base A outer s H → RM K ρ m H → RV K ρ H xv (.ref q) → dx [some xv] m = some (.ok (.tup xs), m) →
    codeAny (model P w) A (.call (.ref f) ⟨[.ref q], []⟩) (ItR P w K outer s H ρ m xs E) s
theorem itF_of (F : FunD K x qual params [.Return (some (.Call (.Name "iter" p) [e] [] pos)) pos2] scope [] kws f fd) (S : FnScope ["self"] ["self"] scope) (hm : mg "iter" = none)
    (hbind : ∀ (kV doc pm : Value) (an : Option Addr) (cdv ct : Value) (u : Value), bindArgs (PySem.W.fnOf x qual params [.Return (some (.Call (.Name "iter" p) [e] [] pos)) pos2] scope .none kV doc pm an cdv ct) ⟨[u], []⟩ = pure [(("self" : Str), u)])
    (hgl : ∀ (cdv : Value) (A : Around) (outer : List Env) (s : Shared) (H : Hp) (E : XK), Gl (cxOf (L2.CX P w) P w K mg base ["self"] qual scope f cdv A outer s H E) "iter")
    (he : ∀ (cdv : Value) (A : Around) (outer : List Env) (s : Shared) (H : Hp) (E : XK), Room k (A.deeper (envOfC qual scope s.heap.objs.size f cdv)) → SE (cxOf (L2.CX P w) P w K mg base ["self"] qual scope f cdv A outer s H E) e dx)
    (hst : ∀ env : Env, starEach (e :: []) env = (false, eval e env) :: starEach [] env) (hpl : ∀ env : Env, (backTo pos (starEach [] env)).any (·.1) = false) : ItF P w K mg base (k + 1) f dx := by
  obtain ⟨oc, od, dV, kV, doc, pm, an, cdv, ct, osl, rfl, lk, hcd, hDD, hk2⟩ := F.ex
  obtain rfl : dV = .none := by
    rcases hDD with ⟨_, e⟩ | ⟨e, _⟩
    · exact e
    · exact absurd rfl e
  refine ⟨fun A outer s H q ρ m xv xs E room e0 M rx ex => ?_⟩
  have old : s.heap.NoLimit ∧ K.In s.heap := ⟨e0.mod.nolimit.keeps fun b o e => (e0.bs b o e).1, e0.mod.kin.keeps fun b o e => (e0.bs b o e).1⟩
  have named : ∀ y ∈ (["self"] : List Str).zip [Value.ref q], scope.names.lookup y.1 = some .local ∨ (scope.names.lookup y.1 = some .cell ∧ ((cellsFrom (s.heap.objs.size + 1) scope.names []).lookup y.1).isSome = true) := by
    intro y hy
    exact (S.par y.1 (List.of_mem_zip hy).1).imp id fun q => ⟨q, PySem.W.cellsFrom_some _ _ _ (.inl q)⟩
  have bnd : BindsTo s (PySem.W.fnOf x qual params [.Return (some (.Call (.Name "iter" p) [e] [] pos)) pos2] scope .none kV doc pm an cdv ct) ⟨[.ref q], []⟩ ((["self"] : List Str).zip [Value.ref q]) := .of_eq (hbind kV doc pm an cdv ct (.ref q))
  refine codeAny_call_function room.depth (old.2 _ _ lk) rfl S.co S.gen rfl (PySem.W.codeRec_of old.2 hcd) (bnd _ _ _ _ (wpAny_newFunctionEnv_cells S.kind named ?_))
  rintro _ rfl s1 xx
  refine ⟨old.1.keeps xx.toInCall.keep, codeAny_func ?_⟩
  have rA : Vals [V.ref q] [Value.ref q] := .cons (show RelV (V.ref q) (Value.ref q) from rfl) .nil
  have J0 := inv_start (CX := L2.CX P w) (P := P) (w := w) (mg := mg) (base := base) (E := E) S room.hd e0 rfl rA xx
  have hR := he cdv A outer s H E (room.deeper _)
  have hg := hgl cdv A outer s H E
  have h' : rdA K (fun cls dd _ H' => E cls dd H') (dCons dx (fun _ m => some (.ok [], m))) (L2.start ["self"] [.ref q]) H (fun vs H1 => ∃ a ws ρ1, vs = [.ref a] ∧ RM K ρ1 m H1 ∧ Ext ρ H ρ1 H1 ∧ SqT K H1 a ws ∧ (∀ ρ2 H2, Ext ρ1 H1 ρ2 H2 → SqT K H2 a ws) ∧ RVs K ρ1 H1 xs ws) := by
    have sA : Z.S K ρ [some xv] m (L2.start ["self"] [.ref q]) H := ⟨M, re_start (N := ["self"]) (xs := [xv]) (vs := [.ref q]) ⟨_, _, rfl, rx, rfl⟩⟩
    have eA : dCons dx (fun _ m => some (.ok [], m)) [some xv] m = some (.ok [.tup xs], m) := by
      unfold dCons bindR
      rw [ex]
    refine ⟨ρ, _, m, _, m, sA, eA, fun ρ1 H1 M1 E1 vs rv => ?_⟩
    obtain ⟨v, t, rfl, h1, h2⟩ := rv
    subst h2
    obtain ⟨a, ws, rfl, h3, h4⟩ := h1
    exact ⟨a, ws, ρ1, rfl, M1, E1, h3.sq, fun ρ2 H2 E2 => (h3.mono E2).sq, h4⟩
  refine wpAny_execs_cons (wpAny_Return_some (wpAny_Call_Name_kw (ld_blt J0 hg hm PyProof.Rows.boot_iter ?_ (by decide) (by decide))))
  refine PyProof.Rows.callWith_builtin1 (thn (((sa_cons hR sa_nil (hst _)).run (fun cls dd _ H' => E cls dd H') (takes_of rfl rfl rfl rfl)).run pos [] s1 _ H _ J0 h') fun us s2 ⟨vs, H1, I1, rv, q1⟩ => ?_) (hst _) (hpl _)
  obtain ⟨a, ws, ρ1, rfl, M1, E1, h3, h4, h5⟩ := q1
  obtain ⟨u, rfl, ru⟩ := vals1 rv
  obtain rfl : u = Value.ref a := ru
  obtain ⟨its, rvs, pt, hz⟩ := I1.tuple h3
  refine call_iter_tup (show IsTup s2.heap a its.toArray from pt) ?_
  have I3 := I1.kept (h' := s2.heap.push { cls := Value.type "tuple_iterator", data := Data.fields #[Value.ref a, Value.int 0 0] }) (t' := s2.toks) fun b o e => Heap.get?_push_of_some _ e
  have sz : s.heap.objs.size ≤ s2.heap.objs.size := by
    exact Nat.le_of_lt (show s.heap.objs.size < s2.heap.objs.size from I1.lt)
  exact ⟨s2.heap.objs.size, a, rfl, ⟨_, Heap.get?_push_size _ rfl, rfl, rfl⟩, sz, .ref s2.heap.objs.size, H1, I3.os, I3.bare, I3.base, I3.hok, rfl, rfl, I1.hok.fresh (Nat.le_refl _), ρ1, ws, M1, E1, h3, h4, h5⟩
end
section
variable {X : Cx} {tg e : Expr} {da : DE} {c : Str} {f : Addr} {ts : List TD} {k : Nat} {dx : DE}
def iOwnD (c : Str) (dx : DE) (da : DE) : DA := fun env m => bindR (da env m) fun x m => match insD m x with
  | some (c', _) => if c' = c then (match dx [some x] m with
    | some (.ok (.tup xs), _) => some (.ok xs, m)
    | _ => none) else none
  | none => none
theorem si_own (O : OwnM X.K c "__iter__" f ts) (F : ItF X.prog X.w X.K X.mg X.base k f dx) (hr : Room k X.A) (hp : ∀ x m v m', dx [some x] m = some (.ok v, m') → m' = m) (ha : SE X e da) : SI X tg e (iOwnD c dx da) := ⟨fun W tk => ⟨fun pins s σ H R I h => by
  have h' : rdE X.K W da σ H (fun v H1 => ∃ q dd gs ρ1 m1 x xs, v = .ref q ∧ H1 q = some (.ins (He.ga X.K c) dd gs) ∧ RM X.K ρ1 m1 H1 ∧ RV X.K ρ1 H1 x (.ref q) ∧ dx [some x] m1 = some (.ok (.tup xs), m1) ∧ (∀ ρ' H', RM X.K ρ' m1 H' → Ext ρ1 H1 ρ' H' → ∀ J, ItOk X.K J ρ' H' xs → R J H')) := by
    obtain ⟨ρ, env, m, z, m', st, ee, pp⟩ := h
    unfold iOwnD bindR at ee
    split at ee
    · cases ee
    · rename_i x m1 h0
      dsimp only at ee
      split at ee
      · rename_i c' fs hi
        split at ee
        · rename_i hc
          subst hc
          split at ee
          · rename_i xs m2 hd
            cases ee
            obtain rfl := hp _ _ _ _ hd
            refine goE st h0 fun ρ' H' v s' E rv => ?_
            obtain ⟨q, dd, gs, rfl, h3, h4⟩ := insD_ok s'.mem rv hi
            exact ⟨q, dd, gs, ρ', _, x, xs, rfl, h3, s'.mem, rv, hd, fun ρ2 H2 M2 E2 J hJ => pp ρ2 H2 M2 (E.trans E2) J hJ⟩
          · cases ee
        · cases ee
      · cases ee
    · rename_i c' fs m1 h0
      cases ee
      exact exE st h0 fun ρ' H' dd s' E r => pp ρ' H' s'.mem E dd r
  refine thn ((ha.run W tk).run pins s σ H _ I h') fun v s1 ⟨y, H1, I1, ry, q, dd, gs, ρ1, m1, x, xs, ey, hq, M1, rx, hd, hR⟩ => ?_
  subst ey
  obtain rfl : v = Value.ref q := ry
  obtain ⟨mA, J, _⟩ := ins_get I1.hok hq
  obtain ⟨od, J, _⟩ := J.look
  refine pyIter_own I1.kIn J O.at_ O.fn (wpAny_call (codeAny_mono (F.run X.A X.stack s1 H1 q ρ1 m1 x xs (fun cls dd H' => W cls dd σ H') hr I1.env0 M1 rx hd) fun r s' hq' => ?_))
  cases r with
  | error er => exact tk er s' (XE.of_call I1 (fun _ _ _ h => h) hq')
  | ok fl =>
    cases fl with
    | ret u =>
      obtain ⟨it, a, rfl, ht, hsz, hc⟩ := hq'
      obtain ⟨v, H3, I3, rv, ev, hn, ρ3, ws, M3, E3, q3, q4, q5⟩ := I1.after hc
      refine ⟨?_, it, [it], _, _, H3, rfl, I3, turn_tuple a _, ht, fun b hb => ?_, hR ρ3 H3 M3 E3 _ (itOk_tup q4 q5)⟩
      · exact (isTupIter_of ht).typeIs
      · have e : b = it := by simpa using hb
        subst e
        exact I1.fpOk hsz hn
    | next => exact False.elim hq'
    | brk => exact False.elim hq'
    | cont => exact False.elim hq'⟩⟩
theorem fld_keep {cs : List Str} {fn : Str} (x : Vl) (m : Mem) (v : Vl) (m' : Mem) (h : dFld cs fn (dVar 0) [some x] m = some (.ok v, m')) : m' = m := by
  have h0 : dVar 0 [some x] m = some (.ok x, m) := rfl
  rw [dFld_ap, h0] at h
  unfold bindR at h
  dsimp only at h
  split at h
  · split at h
    · split at h
      · cases h
        rfl
      · cases h
    · cases h
  · cases h
end
end Z
namespace K01
open PySem PySem.Spec PyProof.Rows L2 Z
def top (i : Nat) : Stmt := PySem.Challenge.pw_lateflushes_k01_rows_made.main.body.getD i (.Pass ⟨0, 0, 0, 0⟩)
abbrev s_law_start : Stmt := (top 15)
abbrev s_law_draw : Stmt := (top 16)
abbrev s_law_pick : Stmt := (top 17)
abbrev s_law_cell : Stmt := (top 19)
abbrev s_law_rows : Stmt := (top 20)
abbrev s_law_turned : Stmt := (top 18)
abbrev s_is_unique : Stmt := (top 10)
abbrev s_is_value : Stmt := (top 9)
abbrev s_is_row : Stmt := (top 11)
abbrev s_Store_init : Stmt := (inClass (top 13) 0)
abbrev s_Store_of : Stmt := (inClass (top 13) 1)
abbrev s_Store_iter : Stmt := (inClass (top 13) 3)
abbrev s_Store_len : Stmt := (inClass (top 13) 2)
abbrev s_Store_row_of : Stmt := (inClass (top 13) 5)
abbrev s_Store_contains : Stmt := (inClass (top 13) 6)
abbrev s_Store_getitem : Stmt := (inClass (top 13) 7)
abbrev s_law_is_store : Stmt := (top 21)
abbrev s_Store_eq : Stmt := (inClass (top 13) 4)
abbrev s_law : Stmt := (top 22)
def csZ : List Str := ["Store"]
def tsZ : List TD := [.c "Store", .b "NoneType", .b "bool", .b "int", .b "str", .b "tuple", .b "list"]
def kitL : List (TD × TD × Bool) := [(.b "NoneType", .c "Store", false), (.b "NoneType", .b "bool", false), (.b "NoneType", .b "int", false), (.b "NoneType", .b "str", false), (.b "NoneType", .b "tuple", false), (.b "bool", .c "Store", false), (.b "bool", .b "bool", true), (.b "bool", .b "int", true), (.b "bool", .b "str", false), (.b "bool", .b "tuple", false), (.b "int", .c "Store", false), (.b "int", .b "bool", false), (.b "int", .b "int", true), (.b "int", .b "str", false), (.b "int", .b "tuple", false), (.b "str", .c "Store", false), (.b "str", .b "bool", false), (.b "str", .b "int", false), (.b "str", .b "str", true), (.b "str", .b "tuple", false), (.b "tuple", .c "Store", false), (.b "tuple", .b "bool", false), (.b "tuple", .b "int", false), (.b "tuple", .b "str", false), (.b "tuple", .b "tuple", true), (.b "list", .c "Store", false), (.b "list", .b "bool", false), (.b "list", .b "int", false), (.b "list", .b "str", false), (.b "list", .b "tuple", false), (.b "dict", .c "Store", false), (.b "dict", .b "bool", false), (.b "dict", .b "int", false), (.b "dict", .b "str", false), (.b "dict", .b "tuple", false), (.c "Store", .c "Store", true), (.c "Store", .b "bool", false), (.c "Store", .b "int", false), (.c "Store", .b "str", false), (.c "Store", .b "tuple", false)]
def esZ : List Str := ["BadRow", "BadUnique", "NoRow", "KeyTaken", "Taken"]
def exL : List (Str × Str × Bool) := []
def fileZ : Str := "/claim/cut.py"
def e0_BadUnique : EZ := ⟨fun K => He.ma K (He.ga K "BadUnique") "__init__", fun K => He.ga K "BadUnique", "BadUnique.__init__", defArgs (inClass (top 3) 0), defBody (inClass (top 3) 0), defScope (inClass (top 3) 0), fileZ⟩
def e0_BadRow : EZ := ⟨fun K => He.ma K (He.ga K "BadRow") "__init__", fun K => He.ga K "BadRow", "BadRow.__init__", defArgs (inClass (top 2) 0), defBody (inClass (top 2) 0), defScope (inClass (top 2) 0), fileZ⟩
def e0_KeyTaken : EZ := ⟨fun K => He.ma K (He.ga K "KeyTaken") "__init__", fun K => He.ga K "KeyTaken", "KeyTaken.__init__", defArgs (inClass (top 5) 0), defBody (inClass (top 5) 0), defScope (inClass (top 5) 0), fileZ⟩
def e0_Taken : EZ := ⟨fun K => He.ma K (He.ga K "Taken") "__init__", fun K => He.ga K "Taken", "Taken.__init__", defArgs (inClass (top 6) 0), defBody (inClass (top 6) 0), defScope (inClass (top 6) 0), fileZ⟩
def e0_NoRow : EZ := ⟨fun K => He.ma K (He.ga K "NoRow") "__init__", fun K => He.ga K "NoRow", "NoRow.__init__", defArgs (inClass (top 4) 0), defBody (inClass (top 4) 0), defScope (inClass (top 4) 0), fileZ⟩
structure FX (P : Program) (K : PySem.W.Frag) (mg : Str → Option Value) : Prop where
  g_law : mg "law" = some (.ref (He.ga K "law"))
  f_len : mg "len" = none
  f_min : mg "min" = none
  f_max : mg "max" = none
  f_range : mg "range" = none
  f_int : mg "int" = none
  f_abs : mg "abs" = none
  f_enumerate : mg "enumerate" = none
  g__law_start : mg "_law_start" = some (.ref (He.ga K "_law_start"))
  g__law_draw : mg "_law_draw" = some (.ref (He.ga K "_law_draw"))
  g__law_pick : mg "_law_pick" = some (.ref (He.ga K "_law_pick"))
  g__law_cell : mg "_law_cell" = some (.ref (He.ga K "_law_cell"))
  g__law_rows : mg "_law_rows" = some (.ref (He.ga K "_law_rows"))
  f_list : mg "list" = none
  g__law_turned : mg "_law_turned" = some (.ref (He.ga K "_law_turned"))
  f_repr : mg "repr" = none
  f_str : mg "str" = none
  ins : InsA K csZ
  kit : KitOk K (kitT kitL)
  f_isinstance : mg "isinstance" = none
  g_is_unique : mg "is_unique" = some (.ref (He.ga K "is_unique"))
  f_super : mg "super" = none
  g_BadUnique : mg "BadUnique" = some (.ref (He.ga K "BadUnique"))
  e_BadUnique : Nonempty (ErrI P K (He.ga K "BadUnique") "unique")
  f_tuple : mg "tuple" = none
  k_TOP : GV K mg "TOP" (.int 999)
  f_bool : mg "bool" = none
  g_is_value : mg "is_value" = some (.ref (He.ga K "is_value"))
  f_all : mg "all" = none
  g_is_row : mg "is_row" = some (.ref (He.ga K "is_row"))
  g_BadRow : mg "BadRow" = some (.ref (He.ga K "BadRow"))
  e_BadRow : Nonempty (ErrI P K (He.ga K "BadRow") "row")
  g_KeyTaken : mg "KeyTaken" = some (.ref (He.ga K "KeyTaken"))
  e_KeyTaken : Nonempty (ErrI P K (He.ga K "KeyTaken") "key")
  g_Taken : mg "Taken" = some (.ref (He.ga K "Taken"))
  e_Taken : Nonempty (ErrI P K (He.ga K "Taken") "column")
  f_sorted : mg "sorted" = none
  a_rows_Store : ClsF K ["Store"] "rows"
  a_unique_Store : ClsF K ["Store"] "unique"
  g_Store : mg "Store" = some (.ref (He.ga K "Store"))
  n_Store : Mk K (He.ga K "Store") (He.ma K (He.ga K "Store") "__init__")
  sm_Store_of : SMd K "Store" "of"
  f_iter : mg "iter" = none
  o_Store___iter__ : OwnM K "Store" "__iter__" (He.ma K (He.ga K "Store") "__iter__") tsZ
  o_Store___len__ : OwnM K "Store" "__len__" (He.ma K (He.ga K "Store") "__len__") tsZ
  c_Store : Cls K (He.ga K "Store")
  m_Store_row_of : Meth K (He.ga K "Store") "row_of" (He.ma K (He.ga K "Store") "row_of")
  o_Store___contains__ : OwnM K "Store" "__contains__" (He.ma K (He.ga K "Store") "__contains__") tsZ
  g_NoRow : mg "NoRow" = some (.ref (He.ga K "NoRow"))
  e_NoRow : Nonempty (ErrI P K (He.ga K "NoRow") "key")
  fi_Store_getitem : PySem.W.fnIn K (He.ma K (He.ga K "Store") "__getitem__") = true
  o_Store___getitem__ : OwnM K "Store" "__getitem__" (He.ma K (He.ga K "Store") "__getitem__") tsZ
  g__law_is_store : mg "_law_is_store" = some (.ref (He.ga K "_law_is_store"))
  o_Store___eq__ : OwnM K "Store" "__eq__" (He.ma K (He.ga K "Store") "__eq__") tsZ
def cks : List Ck := [ckGlo "law",
  ckFree "len",
  ckFree "min",
  ckFree "max",
  ckFree "range",
  ckFree "int",
  ckFree "abs",
  ckFree "enumerate",
  ckGlo "_law_start",
  ckGlo "_law_draw",
  ckGlo "_law_pick",
  ckGlo "_law_cell",
  ckGlo "_law_rows",
  ckFree "list",
  ckGlo "_law_turned",
  ckFree "repr",
  ckFree "str",
  ckIns csZ,
  ckKit kitL,
  ckFree "isinstance",
  ckGlo "is_unique",
  ckFree "super",
  ckGlo "BadUnique",
  ckErrC "BadUnique" "unique" "ValueError" "ValueError.__init__" "ValueError.__new__" [.type "ValueError", .type "Exception", .type "BaseException", .type "object"],
  ckFree "tuple",
  ckGlob "TOP" (.int 999),
  ckFree "bool",
  ckGlo "is_value",
  ckFree "all",
  ckGlo "is_row",
  ckGlo "BadRow",
  ckErrC "BadRow" "row" "ValueError" "ValueError.__init__" "ValueError.__new__" [.type "ValueError", .type "Exception", .type "BaseException", .type "object"],
  ckGlo "KeyTaken",
  ckErrC "KeyTaken" "key" "RuntimeError" "RuntimeError.__init__" "RuntimeError.__new__" [.type "RuntimeError", .type "Exception", .type "BaseException", .type "object"],
  ckGlo "Taken",
  ckErrC "Taken" "column" "RuntimeError" "RuntimeError.__init__" "RuntimeError.__new__" [.type "RuntimeError", .type "Exception", .type "BaseException", .type "object"],
  ckFree "sorted",
  ckFld ["Store"] "rows",
  ckFld ["Store"] "unique",
  ckGlo "Store",
  ckMkr "Store",
  ckSM "Store" "of",
  ckFree "iter",
  ckOwn "Store" "__iter__" tsZ,
  ckOwn "Store" "__len__" tsZ,
  ckCls "Store",
  ckMeth "Store" "row_of",
  ckOwn "Store" "__contains__" tsZ,
  ckGlo "NoRow",
  ckErrC "NoRow" "key" "LookupError" "LookupError.__init__" "LookupError.__new__" [.type "LookupError", .type "Exception", .type "BaseException", .type "object"],
  (fun K => PySem.W.fnIn K (He.ma K (He.ga K "Store") "__getitem__")),
  ckOwn "Store" "__getitem__" tsZ,
  ckGlo "_law_is_store",
  ckOwn "Store" "__eq__" tsZ]
def z0_law_start : DZ := ⟨fun K => (He.ga K "_law_start"), "_law_start", "_law_start", defArgs s_law_start, defBody s_law_start, defScope s_law_start, [], []⟩
def z0_law_draw : DZ := ⟨fun K => (He.ga K "_law_draw"), "_law_draw", "_law_draw", defArgs s_law_draw, defBody s_law_draw, defScope s_law_draw, [], []⟩
def z0_law_pick : DZ := ⟨fun K => (He.ga K "_law_pick"), "_law_pick", "_law_pick", defArgs s_law_pick, defBody s_law_pick, defScope s_law_pick, [], []⟩
def z0_law_cell : DZ := ⟨fun K => (He.ga K "_law_cell"), "_law_cell", "_law_cell", defArgs s_law_cell, defBody s_law_cell, defScope s_law_cell, [], []⟩
def z0_law_rows : DZ := ⟨fun K => (He.ga K "_law_rows"), "_law_rows", "_law_rows", defArgs s_law_rows, defBody s_law_rows, defScope s_law_rows, [], []⟩
def z0_law_turned : DZ := ⟨fun K => (He.ga K "_law_turned"), "_law_turned", "_law_turned", defArgs s_law_turned, defBody s_law_turned, defScope s_law_turned, [], []⟩
def z0_is_unique : DZ := ⟨fun K => (He.ga K "is_unique"), "is_unique", "is_unique", defArgs s_is_unique, defBody s_is_unique, defScope s_is_unique, [], []⟩
def z0_is_value : DZ := ⟨fun K => (He.ga K "is_value"), "is_value", "is_value", defArgs s_is_value, defBody s_is_value, defScope s_is_value, [], []⟩
def z0_is_row : DZ := ⟨fun K => (He.ga K "is_row"), "is_row", "is_row", defArgs s_is_row, defBody s_is_row, defScope s_is_row, [], []⟩
def z0_Store_init : DZ := ⟨fun K => (He.ma K (He.ga K "Store") "__init__"), "__init__", "Store.__init__", defArgs s_Store_init, defBody s_Store_init, defScope s_Store_init, [], [("unique", .str "")]⟩
def z0_Store_of : DZ := ⟨fun K => (smA K "Store" "of"), "of", "Store.of", defArgs s_Store_of, defBody s_Store_of, defScope s_Store_of, [], [("unique", .str "")]⟩
def z0_Store_iter : DZ := ⟨fun K => (He.ma K (He.ga K "Store") "__iter__"), "__iter__", "Store.__iter__", defArgs s_Store_iter, defBody s_Store_iter, defScope s_Store_iter, [], []⟩
def z0_Store_len : DZ := ⟨fun K => (He.ma K (He.ga K "Store") "__len__"), "__len__", "Store.__len__", defArgs s_Store_len, defBody s_Store_len, defScope s_Store_len, [], []⟩
def z0_Store_row_of : DZ := ⟨fun K => (He.ma K (He.ga K "Store") "row_of"), "row_of", "Store.row_of", defArgs s_Store_row_of, defBody s_Store_row_of, defScope s_Store_row_of, [], []⟩
def z0_Store_contains : DZ := ⟨fun K => (He.ma K (He.ga K "Store") "__contains__"), "__contains__", "Store.__contains__", defArgs s_Store_contains, defBody s_Store_contains, defScope s_Store_contains, [], []⟩
def z0_Store_getitem : DZ := ⟨fun K => (He.ma K (He.ga K "Store") "__getitem__"), "__getitem__", "Store.__getitem__", defArgs s_Store_getitem, defBody s_Store_getitem, defScope s_Store_getitem, [], []⟩
def z0_law_is_store : DZ := ⟨fun K => (He.ga K "_law_is_store"), "_law_is_store", "_law_is_store", defArgs s_law_is_store, defBody s_law_is_store, defScope s_law_is_store, [], []⟩
def z0_Store_eq : DZ := ⟨fun K => (He.ma K (He.ga K "Store") "__eq__"), "__eq__", "Store.__eq__", defArgs s_Store_eq, defBody s_Store_eq, defScope s_Store_eq, [], []⟩
def z0_law : DZ := ⟨fun K => (He.ga K "law"), "law", "law", defArgs s_law, defBody s_law, defScope s_law, [], []⟩
structure DX (K : PySem.W.Frag) : Prop where
  d_law_start : ∃ fd, FunD K "_law_start" "_law_start" (defArgs s_law_start) (defBody s_law_start) (defScope s_law_start) (DZ.dvs K z0_law_start) (DZ.kws K z0_law_start) (He.ga K "_law_start") fd
  d_law_draw : ∃ fd, FunD K "_law_draw" "_law_draw" (defArgs s_law_draw) (defBody s_law_draw) (defScope s_law_draw) (DZ.dvs K z0_law_draw) (DZ.kws K z0_law_draw) (He.ga K "_law_draw") fd
  d_law_pick : ∃ fd, FunD K "_law_pick" "_law_pick" (defArgs s_law_pick) (defBody s_law_pick) (defScope s_law_pick) (DZ.dvs K z0_law_pick) (DZ.kws K z0_law_pick) (He.ga K "_law_pick") fd
  d_law_cell : ∃ fd, FunD K "_law_cell" "_law_cell" (defArgs s_law_cell) (defBody s_law_cell) (defScope s_law_cell) (DZ.dvs K z0_law_cell) (DZ.kws K z0_law_cell) (He.ga K "_law_cell") fd
  d_law_rows : ∃ fd, FunD K "_law_rows" "_law_rows" (defArgs s_law_rows) (defBody s_law_rows) (defScope s_law_rows) (DZ.dvs K z0_law_rows) (DZ.kws K z0_law_rows) (He.ga K "_law_rows") fd
  d_law_turned : ∃ fd, FunD K "_law_turned" "_law_turned" (defArgs s_law_turned) (defBody s_law_turned) (defScope s_law_turned) (DZ.dvs K z0_law_turned) (DZ.kws K z0_law_turned) (He.ga K "_law_turned") fd
  d_is_unique : ∃ fd, FunD K "is_unique" "is_unique" (defArgs s_is_unique) (defBody s_is_unique) (defScope s_is_unique) (DZ.dvs K z0_is_unique) (DZ.kws K z0_is_unique) (He.ga K "is_unique") fd
  d_is_value : ∃ fd, FunD K "is_value" "is_value" (defArgs s_is_value) (defBody s_is_value) (defScope s_is_value) (DZ.dvs K z0_is_value) (DZ.kws K z0_is_value) (He.ga K "is_value") fd
  d_is_row : ∃ fd, FunD K "is_row" "is_row" (defArgs s_is_row) (defBody s_is_row) (defScope s_is_row) (DZ.dvs K z0_is_row) (DZ.kws K z0_is_row) (He.ga K "is_row") fd
  d_Store_init : ∃ fd, FunD K "__init__" "Store.__init__" (defArgs s_Store_init) (defBody s_Store_init) (defScope s_Store_init) (DZ.dvs K z0_Store_init) (DZ.kws K z0_Store_init) (He.ma K (He.ga K "Store") "__init__") fd
  d_Store_of : ∃ fd, FunD K "of" "Store.of" (defArgs s_Store_of) (defBody s_Store_of) (defScope s_Store_of) (DZ.dvs K z0_Store_of) (DZ.kws K z0_Store_of) (smA K "Store" "of") fd
  d_Store_iter : ∃ fd, FunD K "__iter__" "Store.__iter__" (defArgs s_Store_iter) (defBody s_Store_iter) (defScope s_Store_iter) (DZ.dvs K z0_Store_iter) (DZ.kws K z0_Store_iter) (He.ma K (He.ga K "Store") "__iter__") fd
  d_Store_len : ∃ fd, FunD K "__len__" "Store.__len__" (defArgs s_Store_len) (defBody s_Store_len) (defScope s_Store_len) (DZ.dvs K z0_Store_len) (DZ.kws K z0_Store_len) (He.ma K (He.ga K "Store") "__len__") fd
  d_Store_row_of : ∃ fd, FunD K "row_of" "Store.row_of" (defArgs s_Store_row_of) (defBody s_Store_row_of) (defScope s_Store_row_of) (DZ.dvs K z0_Store_row_of) (DZ.kws K z0_Store_row_of) (He.ma K (He.ga K "Store") "row_of") fd
  d_Store_contains : ∃ fd, FunD K "__contains__" "Store.__contains__" (defArgs s_Store_contains) (defBody s_Store_contains) (defScope s_Store_contains) (DZ.dvs K z0_Store_contains) (DZ.kws K z0_Store_contains) (He.ma K (He.ga K "Store") "__contains__") fd
  d_Store_getitem : ∃ fd, FunD K "__getitem__" "Store.__getitem__" (defArgs s_Store_getitem) (defBody s_Store_getitem) (defScope s_Store_getitem) (DZ.dvs K z0_Store_getitem) (DZ.kws K z0_Store_getitem) (He.ma K (He.ga K "Store") "__getitem__") fd
  d_law_is_store : ∃ fd, FunD K "_law_is_store" "_law_is_store" (defArgs s_law_is_store) (defBody s_law_is_store) (defScope s_law_is_store) (DZ.dvs K z0_law_is_store) (DZ.kws K z0_law_is_store) (He.ga K "_law_is_store") fd
  d_Store_eq : ∃ fd, FunD K "__eq__" "Store.__eq__" (defArgs s_Store_eq) (defBody s_Store_eq) (defScope s_Store_eq) (DZ.dvs K z0_Store_eq) (DZ.kws K z0_Store_eq) (He.ma K (He.ga K "Store") "__eq__") fd
  d_law : ∃ fd, FunD K "law" "law" (defArgs s_law) (defBody s_law) (defScope s_law) (DZ.dvs K z0_law) (DZ.kws K z0_law) (He.ga K "law") fd
def dzs : List DZ := [z0_law_start, z0_law_draw, z0_law_pick, z0_law_cell, z0_law_rows, z0_law_turned, z0_is_unique, z0_is_value, z0_is_row, z0_Store_init, z0_Store_of, z0_Store_iter, z0_Store_len, z0_Store_row_of, z0_Store_contains, z0_Store_getitem, z0_law_is_store, z0_Store_eq, z0_law]
def ezs : List EZ := [e0_BadUnique, e0_BadRow, e0_KeyTaken, e0_Taken, e0_NoRow]
theorem fx_of {P : Program} (hP : ProgF P fileZ) {K : PySem.W.Frag} {h : Heap} {mg : Str → Option Value} (X : K.In h) (G : h.Ns mainGlobals mg) (c0 : SaysZ cks dzs ezs K) : FX P K mg := by
  refine ⟨?_, ?_, ?_, ?_, ?_, ?_, ?_, ?_, ?_, ?_, ?_, ?_, ?_, ?_, ?_, ?_, ?_, ?_, ?_, ?_, ?_, ?_, ?_, ?_, ?_, ?_, ?_, ?_, ?_, ?_, ?_, ?_, ?_, ?_, ?_, ?_, ?_, ?_, ?_, ?_, ?_, ?_, ?_, ?_, ?_, ?_, ?_, ?_, ?_, ?_, ?_, ?_, ?_, ?_⟩
  · have c := c0.fact 0 (f := ckGlo "law") rfl; exact He.glo_ok X G c
  · have c := c0.fact 1 (f := ckFree "len") rfl; exact He.free_ok X G c
  · have c := c0.fact 2 (f := ckFree "min") rfl; exact He.free_ok X G c
  · have c := c0.fact 3 (f := ckFree "max") rfl; exact He.free_ok X G c
  · have c := c0.fact 4 (f := ckFree "range") rfl; exact He.free_ok X G c
  · have c := c0.fact 5 (f := ckFree "int") rfl; exact He.free_ok X G c
  · have c := c0.fact 6 (f := ckFree "abs") rfl; exact He.free_ok X G c
  · have c := c0.fact 7 (f := ckFree "enumerate") rfl; exact He.free_ok X G c
  · have c := c0.fact 8 (f := ckGlo "_law_start") rfl; exact He.glo_ok X G c
  · have c := c0.fact 9 (f := ckGlo "_law_draw") rfl; exact He.glo_ok X G c
  · have c := c0.fact 10 (f := ckGlo "_law_pick") rfl; exact He.glo_ok X G c
  · have c := c0.fact 11 (f := ckGlo "_law_cell") rfl; exact He.glo_ok X G c
  · have c := c0.fact 12 (f := ckGlo "_law_rows") rfl; exact He.glo_ok X G c
  · have c := c0.fact 13 (f := ckFree "list") rfl; exact He.free_ok X G c
  · have c := c0.fact 14 (f := ckGlo "_law_turned") rfl; exact He.glo_ok X G c
  · have c := c0.fact 15 (f := ckFree "repr") rfl; exact He.free_ok X G c
  · have c := c0.fact 16 (f := ckFree "str") rfl; exact He.free_ok X G c
  · have c := c0.fact 17 (f := ckIns csZ) rfl; exact ckIns_ok c
  · have c := c0.fact 18 (f := ckKit kitL) rfl; exact ckKit_ok c
  · have c := c0.fact 19 (f := ckFree "isinstance") rfl; exact He.free_ok X G c
  · have c := c0.fact 20 (f := ckGlo "is_unique") rfl; exact He.glo_ok X G c
  · have c := c0.fact 21 (f := ckFree "super") rfl; exact He.free_ok X G c
  · have c := c0.fact 22 (f := ckGlo "BadUnique") rfl; exact He.glo_ok X G c
  · have c := c0.fact 23 (f := ckErrC "BadUnique" "unique" "ValueError" "ValueError.__init__" "ValueError.__new__" [.type "ValueError", .type "Exception", .type "BaseException", .type "object"]) rfl; exact errI_of (e := e0_BadUnique) base_ValueError (c0.err_ 0 rfl) c rfl rfl rfl rfl hP.file hP.top rfl rfl rfl rfl rfl rfl rfl (by decide +kernel) (fun _ _ _ _ _ _ _ _ _ => rfl) (fun _ => rfl) (by decide) (by decide) (by decide)
  · have c := c0.fact 24 (f := ckFree "tuple") rfl; exact He.free_ok X G c
  · have c := c0.fact 25 (f := ckGlob "TOP" (.int 999)) rfl; exact gv_ok X G c
  · have c := c0.fact 26 (f := ckFree "bool") rfl; exact He.free_ok X G c
  · have c := c0.fact 27 (f := ckGlo "is_value") rfl; exact He.glo_ok X G c
  · have c := c0.fact 28 (f := ckFree "all") rfl; exact He.free_ok X G c
  · have c := c0.fact 29 (f := ckGlo "is_row") rfl; exact He.glo_ok X G c
  · have c := c0.fact 30 (f := ckGlo "BadRow") rfl; exact He.glo_ok X G c
  · have c := c0.fact 31 (f := ckErrC "BadRow" "row" "ValueError" "ValueError.__init__" "ValueError.__new__" [.type "ValueError", .type "Exception", .type "BaseException", .type "object"]) rfl; exact errI_of (e := e0_BadRow) base_ValueError (c0.err_ 1 rfl) c rfl rfl rfl rfl hP.file hP.top rfl rfl rfl rfl rfl rfl rfl (by decide +kernel) (fun _ _ _ _ _ _ _ _ _ => rfl) (fun _ => rfl) (by decide) (by decide) (by decide)
  · have c := c0.fact 32 (f := ckGlo "KeyTaken") rfl; exact He.glo_ok X G c
  · have c := c0.fact 33 (f := ckErrC "KeyTaken" "key" "RuntimeError" "RuntimeError.__init__" "RuntimeError.__new__" [.type "RuntimeError", .type "Exception", .type "BaseException", .type "object"]) rfl; exact errI_of (e := e0_KeyTaken) base_RuntimeError (c0.err_ 2 rfl) c rfl rfl rfl rfl hP.file hP.top rfl rfl rfl rfl rfl rfl rfl (by decide +kernel) (fun _ _ _ _ _ _ _ _ _ => rfl) (fun _ => rfl) (by decide) (by decide) (by decide)
  · have c := c0.fact 34 (f := ckGlo "Taken") rfl; exact He.glo_ok X G c
  · have c := c0.fact 35 (f := ckErrC "Taken" "column" "RuntimeError" "RuntimeError.__init__" "RuntimeError.__new__" [.type "RuntimeError", .type "Exception", .type "BaseException", .type "object"]) rfl; exact errI_of (e := e0_Taken) base_RuntimeError (c0.err_ 3 rfl) c rfl rfl rfl rfl hP.file hP.top rfl rfl rfl rfl rfl rfl rfl (by decide +kernel) (fun _ _ _ _ _ _ _ _ _ => rfl) (fun _ => rfl) (by decide) (by decide) (by decide)
  · have c := c0.fact 36 (f := ckFree "sorted") rfl; exact He.free_ok X G c
  · have c := c0.fact 37 (f := ckFld ["Store"] "rows") rfl; exact ckFld_ok c
  · have c := c0.fact 38 (f := ckFld ["Store"] "unique") rfl; exact ckFld_ok c
  · have c := c0.fact 39 (f := ckGlo "Store") rfl; exact He.glo_ok X G c
  · have c := c0.fact 40 (f := ckMkr "Store") rfl; exact He.mkr_ok c
  · have c := c0.fact 41 (f := ckSM "Store" "of") rfl; exact ckSM_ok c
  · have c := c0.fact 42 (f := ckFree "iter") rfl; exact He.free_ok X G c
  · have c := c0.fact 43 (f := ckOwn "Store" "__iter__" tsZ) rfl; exact ckOwn_ok c
  · have c := c0.fact 44 (f := ckOwn "Store" "__len__" tsZ) rfl; exact ckOwn_ok c
  · have c := c0.fact 45 (f := ckCls "Store") rfl; exact He.cls_ok c
  · have c := c0.fact 46 (f := ckMeth "Store" "row_of") rfl; exact He.meth_ok c
  · have c := c0.fact 47 (f := ckOwn "Store" "__contains__" tsZ) rfl; exact ckOwn_ok c
  · have c := c0.fact 48 (f := ckGlo "NoRow") rfl; exact He.glo_ok X G c
  · have c := c0.fact 49 (f := ckErrC "NoRow" "key" "LookupError" "LookupError.__init__" "LookupError.__new__" [.type "LookupError", .type "Exception", .type "BaseException", .type "object"]) rfl; exact errI_of (e := e0_NoRow) base_LookupError (c0.err_ 4 rfl) c rfl rfl rfl rfl hP.file hP.top rfl rfl rfl rfl rfl rfl rfl (by decide +kernel) (fun _ _ _ _ _ _ _ _ _ => rfl) (fun _ => rfl) (by decide) (by decide) (by decide)
  · have c := c0.fact 50 (f := (fun K => PySem.W.fnIn K (He.ma K (He.ga K "Store") "__getitem__"))) rfl; exact c
  · have c := c0.fact 51 (f := ckOwn "Store" "__getitem__" tsZ) rfl; exact ckOwn_ok c
  · have c := c0.fact 52 (f := ckGlo "_law_is_store") rfl; exact He.glo_ok X G c
  · have c := c0.fact 53 (f := ckOwn "Store" "__eq__" tsZ) rfl; exact ckOwn_ok c
theorem dx_of {K : PySem.W.Frag} (c0 : SaysZ cks dzs ezs K) : DX K := ⟨c0.def_ 0 (d := z0_law_start) rfl, c0.def_ 1 (d := z0_law_draw) rfl, c0.def_ 2 (d := z0_law_pick) rfl, c0.def_ 3 (d := z0_law_cell) rfl, c0.def_ 4 (d := z0_law_rows) rfl, c0.def_ 5 (d := z0_law_turned) rfl, c0.def_ 6 (d := z0_is_unique) rfl, c0.def_ 7 (d := z0_is_value) rfl, c0.def_ 8 (d := z0_is_row) rfl, c0.def_ 9 (d := z0_Store_init) rfl, c0.def_ 10 (d := z0_Store_of) rfl, c0.def_ 11 (d := z0_Store_iter) rfl, c0.def_ 12 (d := z0_Store_len) rfl, c0.def_ 13 (d := z0_Store_row_of) rfl, c0.def_ 14 (d := z0_Store_contains) rfl, c0.def_ 15 (d := z0_Store_getitem) rfl, c0.def_ 16 (d := z0_law_is_store) rfl, c0.def_ 17 (d := z0_Store_eq) rfl, c0.def_ 18 (d := z0_law) rfl⟩
theorem kp_law_start {K : PySem.W.Frag} (Df : DX K) : PySem.W.keepIn K (.ref (He.ga K "_law_start")) = true := (Df.d_law_start).elim fun _ F => F.kp
theorem kp_law_draw {K : PySem.W.Frag} (Df : DX K) : PySem.W.keepIn K (.ref (He.ga K "_law_draw")) = true := (Df.d_law_draw).elim fun _ F => F.kp
theorem kp_law_pick {K : PySem.W.Frag} (Df : DX K) : PySem.W.keepIn K (.ref (He.ga K "_law_pick")) = true := (Df.d_law_pick).elim fun _ F => F.kp
theorem kp_law_cell {K : PySem.W.Frag} (Df : DX K) : PySem.W.keepIn K (.ref (He.ga K "_law_cell")) = true := (Df.d_law_cell).elim fun _ F => F.kp
theorem kp_law_rows {K : PySem.W.Frag} (Df : DX K) : PySem.W.keepIn K (.ref (He.ga K "_law_rows")) = true := (Df.d_law_rows).elim fun _ F => F.kp
theorem kp_law_turned {K : PySem.W.Frag} (Df : DX K) : PySem.W.keepIn K (.ref (He.ga K "_law_turned")) = true := (Df.d_law_turned).elim fun _ F => F.kp
theorem kp_is_unique {K : PySem.W.Frag} (Df : DX K) : PySem.W.keepIn K (.ref (He.ga K "is_unique")) = true := (Df.d_is_unique).elim fun _ F => F.kp
theorem kp_is_value {K : PySem.W.Frag} (Df : DX K) : PySem.W.keepIn K (.ref (He.ga K "is_value")) = true := (Df.d_is_value).elim fun _ F => F.kp
theorem kp_is_row {K : PySem.W.Frag} (Df : DX K) : PySem.W.keepIn K (.ref (He.ga K "is_row")) = true := (Df.d_is_row).elim fun _ F => F.kp
theorem kp_Store_init {K : PySem.W.Frag} (Df : DX K) : PySem.W.keepIn K (.ref (He.ma K (He.ga K "Store") "__init__")) = true := (Df.d_Store_init).elim fun _ F => F.kp
theorem kp_Store_of {K : PySem.W.Frag} (Df : DX K) : PySem.W.keepIn K (.ref (smA K "Store" "of")) = true := (Df.d_Store_of).elim fun _ F => F.kp
theorem kp_Store_iter {K : PySem.W.Frag} (Df : DX K) : PySem.W.keepIn K (.ref (He.ma K (He.ga K "Store") "__iter__")) = true := (Df.d_Store_iter).elim fun _ F => F.kp
theorem kp_Store_len {K : PySem.W.Frag} (Df : DX K) : PySem.W.keepIn K (.ref (He.ma K (He.ga K "Store") "__len__")) = true := (Df.d_Store_len).elim fun _ F => F.kp
theorem kp_Store_row_of {K : PySem.W.Frag} (Df : DX K) : PySem.W.keepIn K (.ref (He.ma K (He.ga K "Store") "row_of")) = true := (Df.d_Store_row_of).elim fun _ F => F.kp
theorem kp_Store_contains {K : PySem.W.Frag} (Df : DX K) : PySem.W.keepIn K (.ref (He.ma K (He.ga K "Store") "__contains__")) = true := (Df.d_Store_contains).elim fun _ F => F.kp
theorem kp_Store_getitem {K : PySem.W.Frag} (Df : DX K) : PySem.W.keepIn K (.ref (He.ma K (He.ga K "Store") "__getitem__")) = true := (Df.d_Store_getitem).elim fun _ F => F.kp
theorem kp_law_is_store {K : PySem.W.Frag} (Df : DX K) : PySem.W.keepIn K (.ref (He.ga K "_law_is_store")) = true := (Df.d_law_is_store).elim fun _ F => F.kp
theorem kp_Store_eq {K : PySem.W.Frag} (Df : DX K) : PySem.W.keepIn K (.ref (He.ma K (He.ga K "Store") "__eq__")) = true := (Df.d_Store_eq).elim fun _ F => F.kp
theorem kp_law {K : PySem.W.Frag} (Df : DX K) : PySem.W.keepIn K (.ref (He.ga K "law")) = true := (Df.d_law).elim fun _ F => F.kp
/-! ### _law_start -/
def D_law_start : DS := (dSeq (dAsgL 2 false (dLc (iSeqD (dSl (dVar 0) (fun _ m => some (.ok none, m)) (dPart (dC (.int 63))))) (gcVar 3) dYes (dB intFn (dCons (dVar 3) (fun _ m => some (.ok [], m)))) ([("_law_number", 3)].map (·.2))))
  (dSeq (dAsg 4 (dIf (b2 ltI (dVar 1) (dB lenF (dCons (dVar 2) (fun _ m => some (.ok [], m))))) (dB absF (dCons (d2 ixA (dVar 2) (dVar 1)) (fun _ m => some (.ok [], m)))) (dC (.int 0))))
  (dSeq (dAsg 5 (d2 addA (d2 mulA (dC (.int 5003)) (dVar 1)) (dC (.int 71))))
  (dSeq (dFor (iEnm (dCons (dVar 2) (fun _ m => some (.ok [], m)))) (gTupD (gsCons (gVar 6) (gsCons (gVar 3) gsNil)))
  (dAsg 5 (d2 modI (dB intFn (dCons (d2 addA (d2 addA (d2 mulA (dVar 5) (dC (.int 69621))) (d2 modI (dB intFn (dCons (dVar 3) (fun _ m => some (.ok [], m)))) (dC (.int 2147483587)))) (d2 mulA (dC (.int 17)) (dVar 6))) (fun _ m => some (.ok [], m)))) (dC (.int 2147483629)))))
  (dRet (dNew (dLst (dCons (dIf (b2 geI (dVar 4) (d2 powI (dC (.int 10)) (dC (.int 18)))) (dVar 4) (dC (.int 0))) (dCons (dVar 5) (dCons (dC (.int 0)) (dCons (dVar 2) (fun _ m => some (.ok [], m)))))))))))))
def B_law_start : FD := bodyD 7 D_law_start
theorem sc_law_start : FnScope ["_law_script", "_law_turn", "_law_numbers", "_law_number", "_law_cell_here", "_law_begin", "_law_place"] ["_law_script", "_law_turn"] (defScope s_law_start) := ⟨rfl, rfl, rfl, by decide +kernel, rfl, by decide +kernel, by decide +kernel⟩
theorem ok_law_start {P : Program} {w : World} {K : PySem.W.Frag} {mg : Str → Option Value} {base : Heap} (Xf : FX P K mg) (Df : DX K) {fd : FuncData} (F : FunD K "_law_start" "_law_start" (defArgs s_law_start) (defBody s_law_start) (defScope s_law_start) (DZ.dvs K z0_law_start) (DZ.kws K z0_law_start) (He.ga K "_law_start") fd) :
    Z.FnOk P w K mg base (L2.CX P w) 1 (He.ga K "_law_start") fd ["_law_script", "_law_turn"] (spZ K 2 B_law_start) := by
  have S := sc_law_start
  exact body_ok F S fun cdv A outer s H E hr => (sss_cons (ss_setLc (i := 2) (cell := false) rfl S.nd rfl rfl (by rfl) (si_seq (se_slice (se_var (i := 0) rfl (.inl rfl)) so_none (so_some se_int))) (own := [("_law_number", 3)]) (blkOk_by rfl) (fun _ _ _ _ _ => (sgc_name (i := 3) S.nd rfl (.inl rfl))) (fun _ _ _ _ _ => sts_nil) (fun _ _ _ _ _ => (se_int1 rfl Xf.f_int (sa_cons (se_var (i := 3) rfl (.inl rfl)) sa_nil))))
  (sss_cons (ss_set (i := 4) S.nd rfl (.inl rfl) (se_if (st_lt (se_var (i := 1) rfl (.inl rfl)) (se_len rfl Xf.f_len (sa_cons (se_var (i := 2) rfl (.inl rfl)) sa_nil))) (se_abs rfl Xf.f_abs (sa_cons (se_ix (se_var (i := 2) rfl (.inl rfl)) (se_var (i := 1) rfl (.inl rfl))) sa_nil)) se_int))
  (sss_cons (ss_set (i := 5) S.nd rfl (.inl rfl) (se_add (se_mul se_int (se_var (i := 1) rfl (.inl rfl))) se_int))
  (sss_cons (ss_for (passes_of rfl) rfl (si_enum rfl Xf.f_enumerate (sa_cons (se_var (i := 2) rfl (.inl rfl)) sa_nil)) (sg_tup rfl (sgs_cons (sg_name (i := 6) S.nd rfl (.inl rfl)) (sgs_cons (sg_name (i := 3) S.nd rfl (.inl rfl)) sgs_nil)) (gsl_cons (gsl_cons gsl_nil)))
  (sss_one (ss_set (i := 5) S.nd rfl (.inl rfl) (se_mod (se_int1 rfl Xf.f_int (sa_cons (se_add (se_add (se_mul (se_var (i := 5) rfl (.inl rfl)) se_int) (se_mod (se_int1 rfl Xf.f_int (sa_cons (se_var (i := 3) rfl (.inl rfl)) sa_nil)) se_int)) (se_mul se_int (se_var (i := 6) rfl (.inl rfl)))) sa_nil)) se_int))))
  (sss_one (ss_ret (se_new (sl_lst (sa_cons (se_if (st_ge (se_var (i := 4) rfl (.inl rfl)) (se_pow se_int se_int)) (se_var (i := 4) rfl (.inl rfl)) se_int) (sa_cons (se_var (i := 5) rfl (.inl rfl)) (sa_cons se_int (sa_cons (se_var (i := 2) rfl (.inl rfl)) sa_nil))))))))))))
abbrev G_law_start : FD := B_law_start
theorem z_law_start_2 {P : Program} {w : World} {K : PySem.W.Frag} {mg : Str → Option Value} {base : Heap} (Xf : FX P K mg) (Df : DX K) : Fz P w K mg base 1 (He.ga K "_law_start") 2 [] (fun xs ys => pickL [.a 0, .a 1] xs [] [] ys) G_law_start := by
  obtain ⟨fd, F⟩ := Df.d_law_start
  have G0 := ok_law_start (P := P) (w := w) (base := base) Xf Df F
  exact fz1 F G0 2 [] [.a 0, .a 1] (fun _ _ _ _ _ _ us ws h1 h2 => match us, ws, h1, h2 with | [_, _], [], _, _ => rfl)
def c_law_start_2 : List Vl → List Vl → Mem → Option (R Vl × Mem) := fun xs ys => G_law_start ((fun xs ys => pickL [.a 0, .a 1] xs [] [] ys) xs ys)
theorem c_law_start_2_runs {Y : Cx} (Xf : FX Y.prog Y.K Y.mg) (Df : DX Y.K) (hr : Z.Room 1 Y.A) : Z.Runs Y (He.ga Y.K "_law_start") 2 [] c_law_start_2 := (z_law_start_2 Xf Df).runs hr
def h_law_start_2 : List Vl → List Vl → Mem → Option (R Vl × Mem) := freshG kTop 30 c_law_start_2
theorem h_law_start_2_runs {Y : Cx} (Xf : FX Y.prog Y.K Y.mg) (Df : DX Y.K) (hr : Z.Room 1 Y.A) : Z.Runs Y (He.ga Y.K "_law_start") 2 [] h_law_start_2 := Z.Runs.fresh (c_law_start_2_runs Xf Df hr) kTop 30
/-! ### _law_draw -/
def D_law_draw : DS := (dSeq (dIfS (b2 gtI (d2 ixA (dVar 0) (dC (.int 0))) (dC (.int 0)))
  (dSeq (dAsg 2 (d2 modI (dB intFn (dCons (d2 ixA (dVar 0) (dC (.int 0))) (fun _ m => some (.ok [], m)))) (dVar 1)))
  (dSeq (dAsgG (gSetI (dVar 0) (dC (.int 0))) (d2 divI (d2 ixA (dVar 0) (dC (.int 0))) (dVar 1)))
  (dRet (dVar 2))))
  dNil)
  (dSeq (dIfS (b2 eqF (d2 ixA (dVar 0) (dC (.int 3))) (dFrz (dLst (fun _ m => some (.ok [], m)))))
  (dRet (dC (.int 0)))
  dNil)
  (dSeq (dAsgG (gSetI (dVar 0) (dC (.int 2))) (d2 addA (d2 ixA (dVar 0) (dC (.int 2))) (dC (.int 1))))
  (dSeq (dAsg 3 (d2 ixA (d2 ixA (dVar 0) (dC (.int 3))) (d2 modI (dB intFn (dCons (d2 ixA (dVar 0) (dC (.int 2))) (fun _ m => some (.ok [], m)))) (dB lenF (dCons (d2 ixA (dVar 0) (dC (.int 3))) (fun _ m => some (.ok [], m)))))))
  (dSeq (dAsgG (gSetI (dVar 0) (dC (.int 1))) (d2 modI (dB intFn (dCons (d2 addA (d2 addA (d2 mulA (d2 ixA (dVar 0) (dC (.int 1))) (dC (.int 48271))) (d2 modI (dB intFn (dCons (dVar 3) (fun _ m => some (.ok [], m)))) (dC (.int 1000003)))) (d2 mulA (dC (.int 30011)) (d2 ixA (dVar 0) (dC (.int 2))))) (fun _ m => some (.ok [], m)))) (dC (.int 2147483629))))
  (dRet (d2 modI (dB intFn (dCons (d2 divI (d2 modI (dB intFn (dCons (d2 mulA (d2 ixA (dVar 0) (dC (.int 1))) (dC (.int 39373))) (fun _ m => some (.ok [], m)))) (dC (.int 2147483647))) (dC (.int 128))) (fun _ m => some (.ok [], m)))) (dVar 1))))))))
def B_law_draw : FD := bodyD 4 D_law_draw
theorem sc_law_draw : FnScope ["_law_bag", "_law_many", "_law_digit", "_law_more"] ["_law_bag", "_law_many"] (defScope s_law_draw) := ⟨rfl, rfl, rfl, by decide +kernel, rfl, by decide +kernel, by decide +kernel⟩
theorem ok_law_draw {P : Program} {w : World} {K : PySem.W.Frag} {mg : Str → Option Value} {base : Heap} (Xf : FX P K mg) (Df : DX K) {fd : FuncData} (F : FunD K "_law_draw" "_law_draw" (defArgs s_law_draw) (defBody s_law_draw) (defScope s_law_draw) (DZ.dvs K z0_law_draw) (DZ.kws K z0_law_draw) (He.ga K "_law_draw") fd) :
    Z.FnOk P w K mg base (L2.CX P w) 1 (He.ga K "_law_draw") fd ["_law_bag", "_law_many"] (spZ K 2 B_law_draw) := by
  have S := sc_law_draw
  exact body_ok F S fun cdv A outer s H E hr => (sss_cons (ss_if (st_gt (se_ix (se_var (i := 0) rfl (.inl rfl)) se_int) se_int)
  (sss_cons (ss_set (i := 2) S.nd rfl (.inl rfl) (se_mod (se_int1 rfl Xf.f_int (sa_cons (se_ix (se_var (i := 0) rfl (.inl rfl)) se_int) sa_nil)) (se_var (i := 1) rfl (.inl rfl))))
  (sss_cons (ss_asg (se_div (se_ix (se_var (i := 0) rfl (.inl rfl)) se_int) (se_var (i := 1) rfl (.inl rfl))) (sg_setI (se_var (i := 0) rfl (.inl rfl)) se_int))
  (sss_one (ss_ret (se_var (i := 2) rfl (.inl rfl))))))
  sss_nil)
  (sss_cons (ss_if (st_eq (u64 hr) (se_ix (se_var (i := 0) rfl (.inl rfl)) se_int) (se_frz (sl_lst sa_nil)))
  (sss_one (ss_ret se_int))
  sss_nil)
  (sss_cons (ss_asg (se_add (se_ix (se_var (i := 0) rfl (.inl rfl)) se_int) se_int) (sg_setI (se_var (i := 0) rfl (.inl rfl)) se_int))
  (sss_cons (ss_set (i := 3) S.nd rfl (.inl rfl) (se_ix (se_ix (se_var (i := 0) rfl (.inl rfl)) se_int) (se_mod (se_int1 rfl Xf.f_int (sa_cons (se_ix (se_var (i := 0) rfl (.inl rfl)) se_int) sa_nil)) (se_len rfl Xf.f_len (sa_cons (se_ix (se_var (i := 0) rfl (.inl rfl)) se_int) sa_nil)))))
  (sss_cons (ss_asg (se_mod (se_int1 rfl Xf.f_int (sa_cons (se_add (se_add (se_mul (se_ix (se_var (i := 0) rfl (.inl rfl)) se_int) se_int) (se_mod (se_int1 rfl Xf.f_int (sa_cons (se_var (i := 3) rfl (.inl rfl)) sa_nil)) se_int)) (se_mul se_int (se_ix (se_var (i := 0) rfl (.inl rfl)) se_int))) sa_nil)) se_int) (sg_setI (se_var (i := 0) rfl (.inl rfl)) se_int))
  (sss_one (ss_ret (se_mod (se_int1 rfl Xf.f_int (sa_cons (se_div (se_mod (se_int1 rfl Xf.f_int (sa_cons (se_mul (se_ix (se_var (i := 0) rfl (.inl rfl)) se_int) se_int) sa_nil)) se_int) se_int) sa_nil)) (se_var (i := 1) rfl (.inl rfl))))))))))
abbrev G_law_draw : FD := B_law_draw
theorem z_law_draw_2 {P : Program} {w : World} {K : PySem.W.Frag} {mg : Str → Option Value} {base : Heap} (Xf : FX P K mg) (Df : DX K) : Fz P w K mg base 1 (He.ga K "_law_draw") 2 [] (fun xs ys => pickL [.a 0, .a 1] xs [] [] ys) G_law_draw := by
  obtain ⟨fd, F⟩ := Df.d_law_draw
  have G0 := ok_law_draw (P := P) (w := w) (base := base) Xf Df F
  exact fz1 F G0 2 [] [.a 0, .a 1] (fun _ _ _ _ _ _ us ws h1 h2 => match us, ws, h1, h2 with | [_, _], [], _, _ => rfl)
def c_law_draw_2 : List Vl → List Vl → Mem → Option (R Vl × Mem) := fun xs ys => G_law_draw ((fun xs ys => pickL [.a 0, .a 1] xs [] [] ys) xs ys)
theorem c_law_draw_2_runs {Y : Cx} (Xf : FX Y.prog Y.K Y.mg) (Df : DX Y.K) (hr : Z.Room 1 Y.A) : Z.Runs Y (He.ga Y.K "_law_draw") 2 [] c_law_draw_2 := (z_law_draw_2 Xf Df).runs hr
/-! ### _law_pick -/
def D_law_pick : DS := (dRet (d2 ixA (dVar 1) (dCall 2 0 c_law_draw_2 (dCons (dVar 0) (dCons (dB lenF (dCons (dVar 1) (fun _ m => some (.ok [], m)))) (fun _ m => some (.ok [], m)))) dNone)))
def B_law_pick : FD := bodyD 2 D_law_pick
theorem sc_law_pick : FnScope ["_law_bag", "_law_some"] ["_law_bag", "_law_some"] (defScope s_law_pick) := ⟨rfl, rfl, rfl, by decide +kernel, rfl, by decide +kernel, by decide +kernel⟩
theorem ok_law_pick {P : Program} {w : World} {K : PySem.W.Frag} {mg : Str → Option Value} {base : Heap} (Xf : FX P K mg) (Df : DX K) {fd : FuncData} (F : FunD K "_law_pick" "_law_pick" (defArgs s_law_pick) (defBody s_law_pick) (defScope s_law_pick) (DZ.dvs K z0_law_pick) (DZ.kws K z0_law_pick) (He.ga K "_law_pick") fd) :
    Z.FnOk P w K mg base (L2.CX P w) 2 (He.ga K "_law_pick") fd ["_law_bag", "_law_some"] (spZ K 2 B_law_pick) := by
  have S := sc_law_pick
  exact body_ok F S fun cdv A outer s H E hr => (sss_one (ss_ret (se_ix (se_var (i := 1) rfl (.inl rfl)) (se_call (c_law_draw_2_runs Xf Df (hr.mono (by decide : 1 ≤ 1))) (kp_law_draw Df) Xf.g__law_draw rfl (sa_cons (se_var (i := 0) rfl (.inl rfl)) (sa_cons (se_len rfl Xf.f_len (sa_cons (se_var (i := 1) rfl (.inl rfl)) sa_nil)) sa_nil))))))
abbrev G_law_pick : FD := B_law_pick
theorem z_law_pick_2 {P : Program} {w : World} {K : PySem.W.Frag} {mg : Str → Option Value} {base : Heap} (Xf : FX P K mg) (Df : DX K) : Fz P w K mg base 2 (He.ga K "_law_pick") 2 [] (fun xs ys => pickL [.a 0, .a 1] xs [] [] ys) G_law_pick := by
  obtain ⟨fd, F⟩ := Df.d_law_pick
  have G0 := ok_law_pick (P := P) (w := w) (base := base) Xf Df F
  exact fz1 F G0 2 [] [.a 0, .a 1] (fun _ _ _ _ _ _ us ws h1 h2 => match us, ws, h1, h2 with | [_, _], [], _, _ => rfl)
def c_law_pick_2 : List Vl → List Vl → Mem → Option (R Vl × Mem) := fun xs ys => G_law_pick ((fun xs ys => pickL [.a 0, .a 1] xs [] [] ys) xs ys)
theorem c_law_pick_2_runs {Y : Cx} (Xf : FX Y.prog Y.K Y.mg) (Df : DX Y.K) (hr : Z.Room 2 Y.A) : Z.Runs Y (He.ga Y.K "_law_pick") 2 [] c_law_pick_2 := (z_law_pick_2 Xf Df).runs hr
/-! ### _law_cell -/
def D_law_cell : DS := (dSeq (dAsg 1 (dCall 2 0 c_law_draw_2 (dCons (dVar 0) (dCons (dC (.int 6)) (fun _ m => some (.ok [], m)))) dNone))
  (dRet (dIf (b2 ltI (dVar 1) (dC (.int 4))) (d2 ixA (dFrz (dLst (dCons (dC (.int 0)) (dCons (dC (.int 1)) (dCons (dC (.int 2)) (dCons (dC (.int 999)) (fun _ m => some (.ok [], m)))))))) (dVar 1)) (dCall 2 0 c_law_draw_2 (dCons (dVar 0) (dCons (dC (.int 1000)) (fun _ m => some (.ok [], m)))) dNone))))
def B_law_cell : FD := bodyD 2 D_law_cell
theorem sc_law_cell : FnScope ["_law_bag", "_law_way"] ["_law_bag"] (defScope s_law_cell) := ⟨rfl, rfl, rfl, by decide +kernel, rfl, by decide +kernel, by decide +kernel⟩
theorem ok_law_cell {P : Program} {w : World} {K : PySem.W.Frag} {mg : Str → Option Value} {base : Heap} (Xf : FX P K mg) (Df : DX K) {fd : FuncData} (F : FunD K "_law_cell" "_law_cell" (defArgs s_law_cell) (defBody s_law_cell) (defScope s_law_cell) (DZ.dvs K z0_law_cell) (DZ.kws K z0_law_cell) (He.ga K "_law_cell") fd) :
    Z.FnOk P w K mg base (L2.CX P w) 2 (He.ga K "_law_cell") fd ["_law_bag"] (spZ K 1 B_law_cell) := by
  have S := sc_law_cell
  exact body_ok F S fun cdv A outer s H E hr => (sss_cons (ss_set (i := 1) S.nd rfl (.inl rfl) (se_call (c_law_draw_2_runs Xf Df (hr.mono (by decide : 1 ≤ 1))) (kp_law_draw Df) Xf.g__law_draw rfl (sa_cons (se_var (i := 0) rfl (.inl rfl)) (sa_cons se_int sa_nil))))
  (sss_one (ss_ret (se_if (st_lt (se_var (i := 1) rfl (.inl rfl)) se_int) (se_ix (se_frz (sl_lst (sa_cons se_int (sa_cons se_int (sa_cons se_int (sa_cons se_int sa_nil)))))) (se_var (i := 1) rfl (.inl rfl))) (se_call (c_law_draw_2_runs Xf Df (hr.mono (by decide : 1 ≤ 1))) (kp_law_draw Df) Xf.g__law_draw rfl (sa_cons (se_var (i := 0) rfl (.inl rfl)) (sa_cons se_int sa_nil)))))))
abbrev G_law_cell : FD := B_law_cell
theorem z_law_cell_1 {P : Program} {w : World} {K : PySem.W.Frag} {mg : Str → Option Value} {base : Heap} (Xf : FX P K mg) (Df : DX K) : Fz P w K mg base 2 (He.ga K "_law_cell") 1 [] (fun xs ys => pickL [.a 0] xs [] [] ys) G_law_cell := by
  obtain ⟨fd, F⟩ := Df.d_law_cell
  have G0 := ok_law_cell (P := P) (w := w) (base := base) Xf Df F
  exact fz1 F G0 1 [] [.a 0] (fun _ _ _ _ _ _ us ws h1 h2 => match us, ws, h1, h2 with | [_], [], _, _ => rfl)
def c_law_cell_1 : List Vl → List Vl → Mem → Option (R Vl × Mem) := fun xs ys => G_law_cell ((fun xs ys => pickL [.a 0] xs [] [] ys) xs ys)
theorem c_law_cell_1_runs {Y : Cx} (Xf : FX Y.prog Y.K Y.mg) (Df : DX Y.K) (hr : Z.Room 2 Y.A) : Z.Runs Y (He.ga Y.K "_law_cell") 1 [] c_law_cell_1 := (z_law_cell_1 Xf Df).runs hr
/-! ### _law_rows -/
def D_law_rows_0 : DS := (dAsg 3 (dNew (dLst (fun _ m => some (.ok [], m)))))
def D_law_rows_1_0 : DS := (dAsg 5 (dTup (dCons (dCall 2 0 c_law_draw_2 (dCons (dVar 0) (dCons (dC (.int 1000)) (fun _ m => some (.ok [], m)))) dNone) (dCons (dCall 1 0 c_law_cell_1 (dCons (dVar 0) (fun _ m => some (.ok [], m))) dNone) (dCons (dCall 1 0 c_law_cell_1 (dCons (dVar 0) (fun _ m => some (.ok [], m))) dNone) (fun _ m => some (.ok [], m)))))))
def D_law_rows_1_1_0 : DS := (dAsg 5 (dIf (b2 neF (dVar 3) (dFrz (dLst (fun _ m => some (.ok [], m))))) (dTup (dCons (dCall 1 0 c_law_cell_1 (dCons (dVar 0) (fun _ m => some (.ok [], m))) dNone) (dCons (d2 ixA (d2 ixA (dVar 3) (dC (.int 0))) (dC (.int 1))) (dCons (d2 ixA (dVar 5) (dC (.int 2))) (fun _ m => some (.ok [], m)))))) (dVar 5)))
def D_law_rows_1_1 : DS := (dIfS (tAnd2 (b2 gtI (dVar 4) (dC (.int 0))) (b2 eqF (dCall 2 0 c_law_draw_2 (dCons (dVar 0) (dCons (dC (.int 4)) (fun _ m => some (.ok [], m)))) dNone) (dC (.int 0))))
  D_law_rows_1_1_0
  dNil)
def D_law_rows_1_2 : DS := (dAsg 6 (d2 (inA true) (d2 ixA (dVar 5) (dC (.int 0))) (dFrz (dLcW (wLst (dVar 3)) (gcVar 7) dYes (d2 ixA (dVar 7) (dC (.int 0))) ([("_law_old", 7)].map (·.2))))))
def D_law_rows_1_3_0 : DS := (dAsg 6 (dC (.bl false)))
def D_law_rows_1_3 : DS := (dIfS (tAnd2 (b2 (inA false) (dC (.str "a")) (dVar 2)) (b2 (inA false) (d2 ixA (dVar 5) (dC (.int 1))) (dFrz (dLcW (wLst (dVar 3)) (gcVar 7) dYes (d2 ixA (dVar 7) (dC (.int 1))) ([("_law_old", 7)].map (·.2))))))
  D_law_rows_1_3_0
  dNil)
def D_law_rows_1_4_0 : DS := (dAsg 6 (dC (.bl false)))
def D_law_rows_1_4 : DS := (dIfS (tAnd2 (b2 (inA false) (dC (.str "b")) (dVar 2)) (b2 (inA false) (d2 ixA (dVar 5) (dC (.int 2))) (dFrz (dLcW (wLst (dVar 3)) (gcVar 7) dYes (d2 ixA (dVar 7) (dC (.int 2))) ([("_law_old", 7)].map (·.2))))))
  D_law_rows_1_4_0
  dNil)
def D_law_rows_1_5_0 : DS := (dDrop (dM "list" (lstM appH) (dVar 3) (dCons (dVar 5) (fun _ m => some (.ok [], m)))))
def D_law_rows_1_5 : DS := (dIfS (tTr (dVar 6))
  D_law_rows_1_5_0
  dNil)
def D_law_rows_1 : DS := (dFor (iRg1 (dCons (dVar 1) (fun _ m => some (.ok [], m)))) (gVar 4)
  (dSeq D_law_rows_1_0
  (dSeq D_law_rows_1_1
  (dSeq D_law_rows_1_2
  (dSeq D_law_rows_1_3
  (dSeq D_law_rows_1_4
  D_law_rows_1_5))))))
def D_law_rows_2 : DS := (dRet (dVar 3))
def D_law_rows : DS := (dSeq D_law_rows_0
  (dSeq D_law_rows_1
  D_law_rows_2))
def B_law_rows : FD := bodyD 8 D_law_rows
theorem sc_law_rows : FnScope ["_law_bag", "_law_many", "_law_unique", "_law_rows_here", "_law_turn", "_law_row", "_law_is_new", "_law_old"] ["_law_bag", "_law_many", "_law_unique"] (defScope s_law_rows) := ⟨rfl, rfl, rfl, by decide +kernel, rfl, by decide +kernel, by decide +kernel⟩
theorem ok_law_rows {P : Program} {w : World} {K : PySem.W.Frag} {mg : Str → Option Value} {base : Heap} (Xf : FX P K mg) (Df : DX K) {fd : FuncData} (F : FunD K "_law_rows" "_law_rows" (defArgs s_law_rows) (defBody s_law_rows) (defScope s_law_rows) (DZ.dvs K z0_law_rows) (DZ.kws K z0_law_rows) (He.ga K "_law_rows") fd) :
    Z.FnOk P w K mg base (L2.CX P w) 3 (He.ga K "_law_rows") fd ["_law_bag", "_law_many", "_law_unique"] (spZ K 3 B_law_rows) := by
  have S := sc_law_rows
  exact body_ok F S fun cdv A outer s H E hr => (sss_cons (ss_set (i := 3) S.nd rfl (.inl rfl) (se_new (sl_lst sa_nil)))
  (sss_cons (ss_for (passes_of rfl) rfl (si_range1 rfl Xf.f_range (sa_cons (se_var (i := 1) rfl (.inl rfl)) sa_nil)) (sg_name (i := 4) S.nd rfl (.inl rfl))
  (sss_cons (ss_set (i := 5) S.nd rfl (.inl rfl) (se_tup (sa_cons (se_call (c_law_draw_2_runs Xf Df (hr.mono (by decide : 1 ≤ 2))) (kp_law_draw Df) Xf.g__law_draw rfl (sa_cons (se_var (i := 0) rfl (.inl rfl)) (sa_cons se_int sa_nil))) (sa_cons (se_call (c_law_cell_1_runs Xf Df (hr.mono (by decide : 2 ≤ 2))) (kp_law_cell Df) Xf.g__law_cell rfl (sa_cons (se_var (i := 0) rfl (.inl rfl)) sa_nil)) (sa_cons (se_call (c_law_cell_1_runs Xf Df (hr.mono (by decide : 2 ≤ 2))) (kp_law_cell Df) Xf.g__law_cell rfl (sa_cons (se_var (i := 0) rfl (.inl rfl)) sa_nil)) sa_nil)))))
  (sss_cons (ss_if (st_w (sw_and (st_gt (se_var (i := 4) rfl (.inl rfl)) se_int) (sw_and1 (st_eq (u64 hr) (se_call (c_law_draw_2_runs Xf Df (hr.mono (by decide : 1 ≤ 2))) (kp_law_draw Df) Xf.g__law_draw rfl (sa_cons (se_var (i := 0) rfl (.inl rfl)) (sa_cons se_int sa_nil))) se_int))))
  (sss_one (ss_set (i := 5) S.nd rfl (.inl rfl) (se_if (st_ne (u64 hr) (se_var (i := 3) rfl (.inl rfl)) (se_frz (sl_lst sa_nil))) (se_tup (sa_cons (se_call (c_law_cell_1_runs Xf Df (hr.mono (by decide : 2 ≤ 2))) (kp_law_cell Df) Xf.g__law_cell rfl (sa_cons (se_var (i := 0) rfl (.inl rfl)) sa_nil)) (sa_cons (se_ix (se_ix (se_var (i := 3) rfl (.inl rfl)) se_int) se_int) (sa_cons (se_ix (se_var (i := 5) rfl (.inl rfl)) se_int) sa_nil)))) (se_var (i := 5) rfl (.inl rfl)))))
  sss_nil)
  (sss_cons (ss_set (i := 6) S.nd rfl (.inl rfl) (se_notin (u65 hr) (se_ix (se_var (i := 5) rfl (.inl rfl)) se_int) (se_frz (sl_lcW rfl S.nd (siw_list (se_var (i := 3) rfl (.inl rfl))) (own := [("_law_old", 7)]) (blkOk_by rfl) (fun _ _ _ _ _ => (sgc_name (i := 7) S.nd rfl (.inl rfl))) (fun _ _ _ _ _ => sts_nil) (fun _ _ _ _ _ => (se_ix (se_var (i := 7) rfl (.inl rfl)) se_int))))))
  (sss_cons (ss_if (st_w (sw_and (st_in (u65 hr) se_str (se_var (i := 2) rfl (.inl rfl))) (sw_and1 (st_in (u65 hr) (se_ix (se_var (i := 5) rfl (.inl rfl)) se_int) (se_frz (sl_lcW rfl S.nd (siw_list (se_var (i := 3) rfl (.inl rfl))) (own := [("_law_old", 7)]) (blkOk_by rfl) (fun _ _ _ _ _ => (sgc_name (i := 7) S.nd rfl (.inl rfl))) (fun _ _ _ _ _ => sts_nil) (fun _ _ _ _ _ => (se_ix (se_var (i := 7) rfl (.inl rfl)) se_int))))))))
  (sss_one (ss_set (i := 6) S.nd rfl (.inl rfl) se_bl))
  sss_nil)
  (sss_cons (ss_if (st_w (sw_and (st_in (u65 hr) se_str (se_var (i := 2) rfl (.inl rfl))) (sw_and1 (st_in (u65 hr) (se_ix (se_var (i := 5) rfl (.inl rfl)) se_int) (se_frz (sl_lcW rfl S.nd (siw_list (se_var (i := 3) rfl (.inl rfl))) (own := [("_law_old", 7)]) (blkOk_by rfl) (fun _ _ _ _ _ => (sgc_name (i := 7) S.nd rfl (.inl rfl))) (fun _ _ _ _ _ => sts_nil) (fun _ _ _ _ _ => (se_ix (se_var (i := 7) rfl (.inl rfl)) se_int))))))))
  (sss_one (ss_set (i := 6) S.nd rfl (.inl rfl) se_bl))
  sss_nil)
  (sss_one (ss_if (st_tru (se_var (i := 6) rfl (.inl rfl)))
  (sss_one (ss_expr (se_append (se_var (i := 3) rfl (.inl rfl)) (sa_cons (se_var (i := 5) rfl (.inl rfl)) sa_nil))))
  sss_nil))))))))
  (sss_one (ss_ret (se_var (i := 3) rfl (.inl rfl))))))
abbrev G_law_rows : FD := B_law_rows
theorem z_law_rows_3 {P : Program} {w : World} {K : PySem.W.Frag} {mg : Str → Option Value} {base : Heap} (Xf : FX P K mg) (Df : DX K) : Fz P w K mg base 3 (He.ga K "_law_rows") 3 [] (fun xs ys => pickL [.a 0, .a 1, .a 2] xs [] [] ys) G_law_rows := by
  obtain ⟨fd, F⟩ := Df.d_law_rows
  have G0 := ok_law_rows (P := P) (w := w) (base := base) Xf Df F
  exact fz1 F G0 3 [] [.a 0, .a 1, .a 2] (fun _ _ _ _ _ _ us ws h1 h2 => match us, ws, h1, h2 with | [_, _, _], [], _, _ => rfl)
def c_law_rows_3 : List Vl → List Vl → Mem → Option (R Vl × Mem) := fun xs ys => G_law_rows ((fun xs ys => pickL [.a 0, .a 1, .a 2] xs [] [] ys) xs ys)
theorem c_law_rows_3_runs {Y : Cx} (Xf : FX Y.prog Y.K Y.mg) (Df : DX Y.K) (hr : Z.Room 3 Y.A) : Z.Runs Y (He.ga Y.K "_law_rows") 3 [] c_law_rows_3 := (z_law_rows_3 Xf Df).runs hr
/-! ### _law_turned -/
def D_law_turned : DS := (dSeq (dPar 2 3 (dCons (dNew (dListOf (dCons (dVar 1) (fun _ m => some (.ok [], m))))) (dCons (dNew (dLst (fun _ m => some (.ok [], m)))) (fun _ m => some (.ok [], m)))))
  (dSeq (dWhile 100 (b2 neF (dVar 2) (dFrz (dLst (fun _ m => some (.ok [], m)))))
  (dDrop (dM "list" (lstM appH) (dVar 3) (dCons (dM "list" (lstM popH) (dVar 2) (dCons (dCall 2 0 c_law_draw_2 (dCons (dVar 0) (dCons (dB lenF (dCons (dVar 2) (fun _ m => some (.ok [], m)))) (fun _ m => some (.ok [], m)))) dNone) (fun _ m => some (.ok [], m)))) (fun _ m => some (.ok [], m))))))
  (dRet (dVar 3))))
def B_law_turned : FD := bodyD 4 D_law_turned
theorem sc_law_turned : FnScope ["_law_bag", "_law_some", "_law_left", "_law_found"] ["_law_bag", "_law_some"] (defScope s_law_turned) := ⟨rfl, rfl, rfl, by decide +kernel, rfl, by decide +kernel, by decide +kernel⟩
theorem ok_law_turned {P : Program} {w : World} {K : PySem.W.Frag} {mg : Str → Option Value} {base : Heap} (Xf : FX P K mg) (Df : DX K) {fd : FuncData} (F : FunD K "_law_turned" "_law_turned" (defArgs s_law_turned) (defBody s_law_turned) (defScope s_law_turned) (DZ.dvs K z0_law_turned) (DZ.kws K z0_law_turned) (He.ga K "_law_turned") fd) :
    Z.FnOk P w K mg base (L2.CX P w) 2 (He.ga K "_law_turned") fd ["_law_bag", "_law_some"] (spZ K 2 B_law_turned) := by
  have S := sc_law_turned
  exact body_ok F S fun cdv A outer s H E hr => (sss_cons (ss_par (i := 2) (j := 3) rfl S.nd rfl rfl (by decide) rfl rfl (sa_cons (se_new (sl_list rfl Xf.f_list (sa_cons (se_var (i := 1) rfl (.inl rfl)) sa_nil))) (sa_cons (se_new (sl_lst sa_nil)) sa_nil)) (by rfl))
  (sss_cons (ss_while (n := 100) (passes_of rfl) (st_ne (u64 hr) (se_var (i := 2) rfl (.inl rfl)) (se_frz (sl_lst sa_nil)))
  (sss_one (ss_expr (se_append (se_var (i := 3) rfl (.inl rfl)) (sa_cons (se_popAt (se_var (i := 2) rfl (.inl rfl)) (sa_cons (se_call (c_law_draw_2_runs Xf Df (hr.mono (by decide : 1 ≤ 1))) (kp_law_draw Df) Xf.g__law_draw rfl (sa_cons (se_var (i := 0) rfl (.inl rfl)) (sa_cons (se_len rfl Xf.f_len (sa_cons (se_var (i := 2) rfl (.inl rfl)) sa_nil)) sa_nil))) sa_nil)) sa_nil)))))
  (sss_one (ss_ret (se_var (i := 3) rfl (.inl rfl))))))
abbrev G_law_turned : FD := B_law_turned
theorem z_law_turned_2 {P : Program} {w : World} {K : PySem.W.Frag} {mg : Str → Option Value} {base : Heap} (Xf : FX P K mg) (Df : DX K) : Fz P w K mg base 2 (He.ga K "_law_turned") 2 [] (fun xs ys => pickL [.a 0, .a 1] xs [] [] ys) G_law_turned := by
  obtain ⟨fd, F⟩ := Df.d_law_turned
  have G0 := ok_law_turned (P := P) (w := w) (base := base) Xf Df F
  exact fz1 F G0 2 [] [.a 0, .a 1] (fun _ _ _ _ _ _ us ws h1 h2 => match us, ws, h1, h2 with | [_, _], [], _, _ => rfl)
def c_law_turned_2 : List Vl → List Vl → Mem → Option (R Vl × Mem) := fun xs ys => G_law_turned ((fun xs ys => pickL [.a 0, .a 1] xs [] [] ys) xs ys)
theorem c_law_turned_2_runs {Y : Cx} (Xf : FX Y.prog Y.K Y.mg) (Df : DX Y.K) (hr : Z.Room 2 Y.A) : Z.Runs Y (He.ga Y.K "_law_turned") 2 [] c_law_turned_2 := (z_law_turned_2 Xf Df).runs hr
/-! ### is_unique -/
def D_is_unique : DS := (dRet (dAndV (dB (isiF csZ (kitT kitL)) (dCons (dVar 0) (dCons (dC (.ty "str")) (fun _ m => some (.ok [], m))))) (d2 (inA false) (dVar 0) (dTup (dCons (dC (.str "")) (dCons (dC (.str "a")) (dCons (dC (.str "b")) (dCons (dC (.str "ab")) (fun _ m => some (.ok [], m))))))))))
def B_is_unique : FD := bodyD 1 D_is_unique
theorem sc_is_unique : FnScope ["thing"] ["thing"] (defScope s_is_unique) := ⟨rfl, rfl, rfl, by decide +kernel, rfl, by decide +kernel, by decide +kernel⟩
theorem ok_is_unique {P : Program} {w : World} {K : PySem.W.Frag} {mg : Str → Option Value} {base : Heap} (Xf : FX P K mg) (Df : DX K) {fd : FuncData} (F : FunD K "is_unique" "is_unique" (defArgs s_is_unique) (defBody s_is_unique) (defScope s_is_unique) (DZ.dvs K z0_is_unique) (DZ.kws K z0_is_unique) (He.ga K "is_unique") fd) :
    Z.FnOk P w K mg base (L2.CX P w) 1 (He.ga K "is_unique") fd ["thing"] (spZ K 1 B_is_unique) := by
  have S := sc_is_unique
  exact body_ok F S fun cdv A outer s H E hr => (sss_one (ss_ret (se_and (se_isi Xf.ins Xf.kit rfl Xf.f_isinstance (sa_cons (se_var (i := 0) rfl (.inl rfl)) (sa_cons (se_ty rfl Xf.f_str (by decide +kernel)) sa_nil))) (se_one (se_in (u65 hr) (se_var (i := 0) rfl (.inl rfl)) (se_tup (sa_cons se_str (sa_cons se_str (sa_cons se_str (sa_cons se_str sa_nil))))))))))
abbrev G_is_unique : FD := B_is_unique
theorem z_is_unique_1 {P : Program} {w : World} {K : PySem.W.Frag} {mg : Str → Option Value} {base : Heap} (Xf : FX P K mg) (Df : DX K) : Fz P w K mg base 1 (He.ga K "is_unique") 1 [] (fun xs ys => pickL [.a 0] xs [] [] ys) G_is_unique := by
  obtain ⟨fd, F⟩ := Df.d_is_unique
  have G0 := ok_is_unique (P := P) (w := w) (base := base) Xf Df F
  exact fz1 F G0 1 [] [.a 0] (fun _ _ _ _ _ _ us ws h1 h2 => match us, ws, h1, h2 with | [_], [], _, _ => rfl)
def c_is_unique_1 : List Vl → List Vl → Mem → Option (R Vl × Mem) := fun xs ys => G_is_unique ((fun xs ys => pickL [.a 0] xs [] [] ys) xs ys)
theorem c_is_unique_1_runs {Y : Cx} (Xf : FX Y.prog Y.K Y.mg) (Df : DX Y.K) (hr : Z.Room 1 Y.A) : Z.Runs Y (He.ga Y.K "is_unique") 1 [] c_is_unique_1 := (z_is_unique_1 Xf Df).runs hr
/-! ### is_value -/
def D_is_value : DS := (dRet (dAndV (dB (isiF csZ (kitT kitL)) (dCons (dVar 0) (dCons (dC (.ty "int")) (fun _ m => some (.ok [], m))))) (dAndV (dNotV (dB (isiF csZ (kitT kitL)) (dCons (dVar 0) (dCons (dC (.ty "bool")) (fun _ m => some (.ok [], m)))))) (dChain leI leI (dC (.int 0)) (dVar 0) (dC (.int 999))))))
def B_is_value : FD := bodyD 1 D_is_value
theorem sc_is_value : FnScope ["thing"] ["thing"] (defScope s_is_value) := ⟨rfl, rfl, rfl, by decide +kernel, rfl, by decide +kernel, by decide +kernel⟩
theorem ok_is_value {P : Program} {w : World} {K : PySem.W.Frag} {mg : Str → Option Value} {base : Heap} (Xf : FX P K mg) (Df : DX K) {fd : FuncData} (F : FunD K "is_value" "is_value" (defArgs s_is_value) (defBody s_is_value) (defScope s_is_value) (DZ.dvs K z0_is_value) (DZ.kws K z0_is_value) (He.ga K "is_value") fd) :
    Z.FnOk P w K mg base (L2.CX P w) 1 (He.ga K "is_value") fd ["thing"] (spZ K 1 B_is_value) := by
  have S := sc_is_value
  exact body_ok F S fun cdv A outer s H E hr => (sss_one (ss_ret (se_and (se_isi Xf.ins Xf.kit rfl Xf.f_isinstance (sa_cons (se_var (i := 0) rfl (.inl rfl)) (sa_cons (se_ty rfl Xf.f_int (by decide +kernel)) sa_nil))) (se_and (se_not (se_isi Xf.ins Xf.kit rfl Xf.f_isinstance (sa_cons (se_var (i := 0) rfl (.inl rfl)) (sa_cons (se_ty rfl Xf.f_bool (by decide +kernel)) sa_nil)))) (se_one (se_ch2 op_le op_le sf_leI sf_leI se_int (se_var (i := 0) rfl (.inl rfl)) (se_con rfl Xf.k_TOP)))))))
abbrev G_is_value : FD := B_is_value
theorem z_is_value_1 {P : Program} {w : World} {K : PySem.W.Frag} {mg : Str → Option Value} {base : Heap} (Xf : FX P K mg) (Df : DX K) : Fz P w K mg base 1 (He.ga K "is_value") 1 [] (fun xs ys => pickL [.a 0] xs [] [] ys) G_is_value := by
  obtain ⟨fd, F⟩ := Df.d_is_value
  have G0 := ok_is_value (P := P) (w := w) (base := base) Xf Df F
  exact fz1 F G0 1 [] [.a 0] (fun _ _ _ _ _ _ us ws h1 h2 => match us, ws, h1, h2 with | [_], [], _, _ => rfl)
def c_is_value_1 : List Vl → List Vl → Mem → Option (R Vl × Mem) := fun xs ys => G_is_value ((fun xs ys => pickL [.a 0] xs [] [] ys) xs ys)
theorem c_is_value_1_runs {Y : Cx} (Xf : FX Y.prog Y.K Y.mg) (Df : DX Y.K) (hr : Z.Room 1 Y.A) : Z.Runs Y (He.ga Y.K "is_value") 1 [] c_is_value_1 := (z_is_value_1 Xf Df).runs hr
/-! ### is_row -/
def D_is_row : DS := (dSeq (dIfS (tOr2 (tNot1 (tTr (dB (isiF csZ (kitT kitL)) (dCons (dVar 0) (dCons (dC (.ty "tuple")) (fun _ m => some (.ok [], m))))))) (b2 neF (dB lenF (dCons (dVar 0) (fun _ m => some (.ok [], m)))) (dC (.int 3))))
  (dRet (dC (.bl false)))
  dNil)
  (dRet (dB (quant (fun l => l.all id)) (dCons (dFrz (dLc (iSeqD (dVar 0)) (gcVar 1) dYes (dCall 1 0 c_is_value_1 (dCons (dVar 1) (fun _ m => some (.ok [], m))) dNone) ([("part", 1)].map (·.2)))) (fun _ m => some (.ok [], m))))))
def B_is_row : FD := bodyD 2 D_is_row
theorem sc_is_row : FnScope ["thing", "part"] ["thing"] (defScope s_is_row) := ⟨rfl, rfl, rfl, by decide +kernel, rfl, by decide +kernel, by decide +kernel⟩
theorem ok_is_row {P : Program} {w : World} {K : PySem.W.Frag} {mg : Str → Option Value} {base : Heap} (Xf : FX P K mg) (Df : DX K) {fd : FuncData} (F : FunD K "is_row" "is_row" (defArgs s_is_row) (defBody s_is_row) (defScope s_is_row) (DZ.dvs K z0_is_row) (DZ.kws K z0_is_row) (He.ga K "is_row") fd) :
    Z.FnOk P w K mg base (L2.CX P w) 2 (He.ga K "is_row") fd ["thing"] (spZ K 1 B_is_row) := by
  have S := sc_is_row
  exact body_ok F S fun cdv A outer s H E hr => (sss_cons (ss_if (st_w (sw_or (st_not (st_tru (se_isi Xf.ins Xf.kit rfl Xf.f_isinstance (sa_cons (se_var (i := 0) rfl (.inl rfl)) (sa_cons (se_ty rfl Xf.f_tuple (by decide +kernel)) sa_nil))))) (sw_or1 (st_ne (u64 hr) (se_len rfl Xf.f_len (sa_cons (se_var (i := 0) rfl (.inl rfl)) sa_nil)) se_int))))
  (sss_one (ss_ret se_bl))
  sss_nil)
  (sss_one (ss_ret (se_all rfl rfl Xf.f_all (sa_cons (se_frz (sl_lc rfl S.nd (si_seq (se_var (i := 0) rfl (.inl rfl))) (own := [("part", 1)]) (blkOk_by rfl) (fun _ _ _ _ _ => (sgc_name (i := 1) S.nd rfl (.inl rfl))) (fun _ _ _ _ _ => sts_nil) (fun _ _ _ _ _ => (se_call (c_is_value_1_runs Xf Df (hr.mono (by decide : 1 ≤ 1))) (kp_is_value Df) Xf.g_is_value rfl (sa_cons (se_var (i := 1) rfl (.inl rfl)) sa_nil))))) sa_nil)))))
abbrev G_is_row : FD := B_is_row
theorem z_is_row_1 {P : Program} {w : World} {K : PySem.W.Frag} {mg : Str → Option Value} {base : Heap} (Xf : FX P K mg) (Df : DX K) : Fz P w K mg base 2 (He.ga K "is_row") 1 [] (fun xs ys => pickL [.a 0] xs [] [] ys) G_is_row := by
  obtain ⟨fd, F⟩ := Df.d_is_row
  have G0 := ok_is_row (P := P) (w := w) (base := base) Xf Df F
  exact fz1 F G0 1 [] [.a 0] (fun _ _ _ _ _ _ us ws h1 h2 => match us, ws, h1, h2 with | [_], [], _, _ => rfl)
def c_is_row_1 : List Vl → List Vl → Mem → Option (R Vl × Mem) := fun xs ys => G_is_row ((fun xs ys => pickL [.a 0] xs [] [] ys) xs ys)
theorem c_is_row_1_runs {Y : Cx} (Xf : FX Y.prog Y.K Y.mg) (Df : DX Y.K) (hr : Z.Room 2 Y.A) : Z.Runs Y (He.ga Y.K "is_row") 1 [] c_is_row_1 := (z_is_row_1 Xf Df).runs hr
/-! ### Store.__init__ -/
def D_Store_init_0_0 : DS := (dRaise (dMk "BadUnique" "unique" (dCons (dVar 1) (fun _ m => some (.ok [], m)))))
def D_Store_init_0 : DS := (dIfS (tNot1 (tTr (dCall 1 0 c_is_unique_1 (dCons (dVar 1) (fun _ m => some (.ok [], m))) dNone)))
  D_Store_init_0_0
  dNil)
def D_Store_init_1 : DS := (dAsg 3 dNewK)
def D_Store_init_2 : DS := (dAsg 4 dNewT)
def D_Store_init_3_0_0 : DS := (dRaise (dMk "BadRow" "row" (dCons (dVar 5) (fun _ m => some (.ok [], m)))))
def D_Store_init_3_0 : DS := (dIfS (tNot1 (tTr (dCall 1 0 c_is_row_1 (dCons (dVar 5) (fun _ m => some (.ok [], m))) dNone)))
  D_Store_init_3_0_0
  dNil)
def D_Store_init_3_1_0 : DS := (dRaise (dMk "KeyTaken" "key" (dCons (d2 ixA (dVar 5) (dC (.int 0))) (fun _ m => some (.ok [], m)))))
def D_Store_init_3_1 : DS := (dIfS (tB' (d2 (inK false) (d2 ixA (dVar 5) (dC (.int 0))) (dVar 3)))
  D_Store_init_3_1_0
  dNil)
def D_Store_init_3_2_0_0_0 : DS := (dRaise (dMk "Taken" "column" (dCons (dVar 7) (fun _ m => some (.ok [], m)))))
def D_Store_init_3_2_0_0 : DS := (dIfS (tB' (dInT false (dCons (dVar 7) (dCons (d2 ixA (dVar 5) (dVar 6)) (fun _ m => some (.ok [], m)))) (dVar 4)))
  D_Store_init_3_2_0_0_0
  dNil)
def D_Store_init_3_2_0_1 : DS := (dPutT (dVar 4) (dCons (dVar 7) (dCons (d2 ixA (dVar 5) (dVar 6)) (fun _ m => some (.ok [], m)))) (dC (.bl true)))
def D_Store_init_3_2_0 : DS := (dIfS (b2 (inA false) (dVar 7) (dVar 1))
  (dSeq D_Store_init_3_2_0_0
  D_Store_init_3_2_0_1)
  dNil)
def D_Store_init_3_2 : DS := (dFor (iTupD (dTup (dCons (dTup (dCons (dC (.int 1)) (dCons (dC (.str "a")) (fun _ m => some (.ok [], m))))) (dCons (dTup (dCons (dC (.int 2)) (dCons (dC (.str "b")) (fun _ m => some (.ok [], m))))) (fun _ m => some (.ok [], m)))))) (gTupD (gsCons (gVar 6) (gsCons (gVar 7) gsNil)))
  D_Store_init_3_2_0)
def D_Store_init_3_3 : DS := (dPutK (dVar 3) (d2 ixA (dVar 5) (dC (.int 0))) (dVar 5))
def D_Store_init_3 : DS := (dFor (iSeqD (dVar 2)) (gVar 5)
  (dSeq D_Store_init_3_0
  (dSeq D_Store_init_3_1
  (dSeq D_Store_init_3_2
  D_Store_init_3_3))))
def D_Store_init_4 : DS := (sFldD ["Store"] "rows" (dB tupleF (dCons (dFrz (dLc (iSeqD (dFrz (dLF sortKD (dCons (dVar 3) (fun _ m => some (.ok [], m)))))) (gcVar 8) dYes (d2 ixK (dVar 3) (dVar 8)) ([("key", 8)].map (·.2)))) (fun _ m => some (.ok [], m)))) (dVar 0))
def D_Store_init_5 : DS := (sFldD ["Store"] "unique" (dVar 1) (dVar 0))
def D_Store_init : DS := (dSeq D_Store_init_0
  (dSeq D_Store_init_1
  (dSeq D_Store_init_2
  (dSeq D_Store_init_3
  (dSeq D_Store_init_4
  D_Store_init_5)))))
def B_Store_init : FD := bodyD 9 D_Store_init
theorem sc_Store_init : FnScope ["self", "unique", "rows", "found", "used", "row", "at", "column", "key"] ["self", "unique", "rows"] (defScope s_Store_init) := ⟨rfl, rfl, rfl, by decide +kernel, rfl, by decide +kernel, by decide +kernel⟩
theorem bd_Store_init {P : Program} {w : World} {K : PySem.W.Frag} {mg : Str → Option Value} {base : Heap} (Xf : FX P K mg) (Df : DX K) (cdv : Value) (A : Around) (outer : List Env) (s : Shared) (H : Hp) (E : XK) (hr : Z.Room 2 (A.deeper (envOfC "Store.__init__" (defScope s_Store_init) s.heap.objs.size (He.ma K (He.ga K "Store") "__init__") cdv))) :
    SSs (cxOf (L2.CX P w) P w K mg base ["self", "unique", "rows", "found", "used", "row", "at", "column", "key"] "Store.__init__" (defScope s_Store_init) (He.ma K (He.ga K "Store") "__init__") cdv A outer s H E) (defBody s_Store_init) D_Store_init := by
  have S := sc_Store_init
  exact (sss_cons (ss_if (st_not (st_tru (se_call (c_is_unique_1_runs Xf Df (hr.mono (by decide : 1 ≤ 2))) (kp_is_unique Df) Xf.g_is_unique rfl (sa_cons (se_var (i := 1) rfl (.inl rfl)) sa_nil))))
  (sss_one (ss_raise rfl (sm_errN Xf.e_BadUnique Xf.f_super (hr.mono (by decide : 1 ≤ 2)) Xf.g_BadUnique rfl (sa_cons (se_var (i := 1) rfl (.inl rfl)) sa_nil))))
  sss_nil)
  (sss_cons (ss_set (i := 3) S.nd rfl (.inr rfl) se_dnew)
  (sss_cons (ss_set (i := 4) S.nd rfl (.inl rfl) se_dnewT)
  (sss_cons (ss_for (passes_of rfl) rfl (si_seq (se_var (i := 2) rfl (.inl rfl))) (sg_name (i := 5) S.nd rfl (.inl rfl))
  (sss_cons (ss_if (st_not (st_tru (se_call (c_is_row_1_runs Xf Df (hr.mono (by decide : 2 ≤ 2))) (kp_is_row Df) Xf.g_is_row rfl (sa_cons (se_var (i := 5) rfl (.inl rfl)) sa_nil))))
  (sss_one (ss_raise rfl (sm_errN Xf.e_BadRow Xf.f_super (hr.mono (by decide : 1 ≤ 2)) Xf.g_BadRow rfl (sa_cons (se_var (i := 5) rfl (.inl rfl)) sa_nil))))
  sss_nil)
  (sss_cons (ss_if (st_cmpE (se_din (u1 hr) (se_ix (se_var (i := 5) rfl (.inl rfl)) se_int) (se_var (i := 3) rfl (.inr (.inl rfl)))))
  (sss_one (ss_raise rfl (sm_errN Xf.e_KeyTaken Xf.f_super (hr.mono (by decide : 1 ≤ 2)) Xf.g_KeyTaken rfl (sa_cons (se_ix (se_var (i := 5) rfl (.inl rfl)) se_int) sa_nil))))
  sss_nil)
  (sss_cons (ss_for (passes_of rfl) rfl (si_tup (se_tup (sa_cons (se_tup (sa_cons se_int (sa_cons se_str sa_nil))) (sa_cons (se_tup (sa_cons se_int (sa_cons se_str sa_nil))) sa_nil)))) (sg_tup rfl (sgs_cons (sg_name (i := 6) S.nd rfl (.inl rfl)) (sgs_cons (sg_name (i := 7) S.nd rfl (.inl rfl)) sgs_nil)) (gsl_cons (gsl_cons gsl_nil)))
  (sss_one (ss_if (st_in (u65 hr) (se_var (i := 7) rfl (.inl rfl)) (se_var (i := 1) rfl (.inl rfl)))
  (sss_cons (ss_if (st_cmpE (se_dinT (u1 hr) (sa_cons (se_var (i := 7) rfl (.inl rfl)) (sa_cons (se_ix (se_var (i := 5) rfl (.inl rfl)) (se_var (i := 6) rfl (.inl rfl))) sa_nil)) (se_var (i := 4) rfl (.inl rfl))))
  (sss_one (ss_raise rfl (sm_errN Xf.e_Taken Xf.f_super (hr.mono (by decide : 1 ≤ 2)) Xf.g_Taken rfl (sa_cons (se_var (i := 7) rfl (.inl rfl)) sa_nil))))
  sss_nil)
  (sss_one (ss_dputT (u1 hr) (se_var (i := 4) rfl (.inl rfl)) (sa_cons (se_var (i := 7) rfl (.inl rfl)) (sa_cons (se_ix (se_var (i := 5) rfl (.inl rfl)) (se_var (i := 6) rfl (.inl rfl))) sa_nil)) se_bl)))
  sss_nil)))
  (sss_one (ss_dput (u1 hr) (se_var (i := 3) rfl (.inr (.inl rfl))) (se_ix (se_var (i := 5) rfl (.inl rfl)) se_int) (se_var (i := 5) rfl (.inl rfl))))))))
  (sss_cons (ss_fld (se_var (i := 0) rfl (.inl rfl)) (se_tuple rfl Xf.f_tuple (sa_cons (se_frz (sl_lc rfl S.nd (si_seq (se_frz (sl_sortD rfl rfl Xf.f_sorted (sa_cons (se_var (i := 3) rfl (.inr (.inl rfl))) sa_nil)))) (own := [("key", 8)]) (blkOk_by rfl) (fun _ _ _ _ _ => (sgc_name (i := 8) S.nd rfl (.inl rfl))) (fun _ _ _ _ _ => sts_nil) (fun _ _ _ _ _ => (se_dget (u1 hr) (se_var (i := 3) rfl (.inr (.inl rfl))) (se_var (i := 8) rfl (.inl rfl)) (fun _ _ => rfl))))) sa_nil)) Xf.a_rows_Store)
  (sss_one (ss_fld (se_var (i := 0) rfl (.inl rfl)) (se_var (i := 1) rfl (.inl rfl)) Xf.a_unique_Store)))))))
abbrev G_Store_init : FD := B_Store_init
theorem z_Store_init_S1_unique {P : Program} {w : World} {K : PySem.W.Frag} {mg : Str → Option Value} {base : Heap} (Xf : FX P K mg) (Df : DX K) : Sz P w K mg base 3 (He.ma K (He.ga K "Store") "__init__") 1 ["unique"] (starZ 1 [.a 0, .k 0] []) G_Store_init := by
  obtain ⟨fd, F⟩ := Df.d_Store_init
  have S := sc_Store_init
  exact sz3 (ps := ["self", "unique"]) (pv := "rows") F S (bd_Store_init Xf Df) 1 ["unique"] [] [.a 0, .k 0] [] (fun _ _ => rfl) (by intro h; cases h) (fun q hq => nomatch hq) (fun _ _ _ _ _ _ us rest mv ws h1 h2 h3 => match us, rest, mv, ws, h1, h2, h3 with | [_], [], [], [_], _, _, _ => KwS.nil rfl | [_], _ :: _, [], [_], _, _, _ => KwS.nil rfl) rfl rfl
def m_Store_init_S1_unique : List Vl → List Vl → Mem → Option (R Vl × Mem) := initD "Store" (starZ 1 [.a 0, .k 0] []) G_Store_init
theorem m_Store_init_S1_unique_runs {Y : Cx} (Xf : FX Y.prog Y.K Y.mg) (Df : DX Y.K) (hr : Z.Room 4 Y.A) : RunsS Y (He.ga Y.K "Store") 0 ["unique"] m_Store_init_S1_unique := Sz.sruns Xf.n_Store (z_Store_init_S1_unique Xf Df) hr
def n_Store_init_S1_unique : List Vl → List Vl → Mem → Option (R Vl × Mem) := freshG kNone 30 m_Store_init_S1_unique
theorem n_Store_init_S1_unique_runs {Y : Cx} (Xf : FX Y.prog Y.K Y.mg) (Df : DX Y.K) (hr : Z.Room 4 Y.A) : RunsS Y (He.ga Y.K "Store") 0 ["unique"] n_Store_init_S1_unique := fun n h1 h2 => Z.Runs.fresh (m_Store_init_S1_unique_runs Xf Df hr n h1 h2) kNone 30
theorem z_Store_init_S1 {P : Program} {w : World} {K : PySem.W.Frag} {mg : Str → Option Value} {base : Heap} (Xf : FX P K mg) (Df : DX K) : Sz P w K mg base 3 (He.ma K (He.ga K "Store") "__init__") 1 [] (starZ 1 [.a 0, .m 0] [.str ""]) G_Store_init := by
  obtain ⟨fd, F⟩ := Df.d_Store_init
  have S := sc_Store_init
  exact sz3 (ps := ["self", "unique"]) (pv := "rows") F S (bd_Store_init Xf Df) 1 [] [("unique", He.Dv.v K (.str ""))] [.a 0, .m 0] [.str ""] (fun _ _ => ⟨_, _, rfl, rfl, rfl⟩) (by intro h; cases h) (fun q hq => (List.mem_cons.mp hq).elim (fun e => e ▸ List.mem_cons_self) fun h0 => nomatch h0) (fun _ _ _ _ _ _ us rest mv ws h1 h2 h3 => match us, rest, mv, ws, h1, h2, h3 with | [_], [], [_], [], _, _, _ => ⟨_, _, _, _, _, _, rfl, rfl, rfl⟩ | [_], _ :: _, [_], [], _, _, _ => ⟨_, _, _, _, _, _, rfl, rfl, rfl⟩) rfl rfl
def m_Store_init_S1 : List Vl → List Vl → Mem → Option (R Vl × Mem) := initD "Store" (starZ 1 [.a 0, .m 0] [.str ""]) G_Store_init
theorem m_Store_init_S1_runs {Y : Cx} (Xf : FX Y.prog Y.K Y.mg) (Df : DX Y.K) (hr : Z.Room 4 Y.A) : RunsS Y (He.ga Y.K "Store") 0 [] m_Store_init_S1 := Sz.sruns Xf.n_Store (z_Store_init_S1 Xf Df) hr
def n_Store_init_S1 : List Vl → List Vl → Mem → Option (R Vl × Mem) := freshG kNone 30 m_Store_init_S1
theorem n_Store_init_S1_runs {Y : Cx} (Xf : FX Y.prog Y.K Y.mg) (Df : DX Y.K) (hr : Z.Room 4 Y.A) : RunsS Y (He.ga Y.K "Store") 0 [] n_Store_init_S1 := fun n h1 h2 => Z.Runs.fresh (m_Store_init_S1_runs Xf Df hr n h1 h2) kNone 30
/-! ### Store.of -/
def D_Store_of : DS := (dRet (dCallSt 0 1 n_Store_init_S1_unique (dVar 0) (dCons (dVar 1) (fun _ m => some (.ok [], m)))))
def B_Store_of : FD := bodyD 2 D_Store_of
theorem sc_Store_of : FnScope ["rows", "unique"] ["rows", "unique"] (defScope s_Store_of) := ⟨rfl, rfl, rfl, by decide +kernel, rfl, by decide +kernel, by decide +kernel⟩
theorem ok_Store_of {P : Program} {w : World} {K : PySem.W.Frag} {mg : Str → Option Value} {base : Heap} (Xf : FX P K mg) (Df : DX K) {fd : FuncData} (F : FunD K "of" "Store.of" (defArgs s_Store_of) (defBody s_Store_of) (defScope s_Store_of) (DZ.dvs K z0_Store_of) (DZ.kws K z0_Store_of) (smA K "Store" "of") fd) :
    Z.FnOk P w K mg base (L2.CX P w) 5 (smA K "Store" "of") fd ["rows", "unique"] (spZ K 2 B_Store_of) := by
  have S := sc_Store_of
  exact body_ok F S fun cdv A outer s H E hr => (sss_one (ss_ret (se_callSt (n_Store_init_S1_unique_runs Xf Df (hr.mono (by decide : 4 ≤ 4))) (Xf.n_Store).kp Xf.g_Store rfl (se_var (i := 0) rfl (.inl rfl)) (sk_cons (se_var (i := 1) rfl (.inl rfl)) sk_nil))))
abbrev G_Store_of : FD := B_Store_of
theorem z_Store_of_1_unique {P : Program} {w : World} {K : PySem.W.Frag} {mg : Str → Option Value} {base : Heap} (Xf : FX P K mg) (Df : DX K) : Fz P w K mg base 5 (smA K "Store" "of") 1 ["unique"] (fun xs ys => pickL [.a 0, .k 0] xs [] [] ys) G_Store_of := by
  obtain ⟨fd, F⟩ := Df.d_Store_of
  have G0 := ok_Store_of (P := P) (w := w) (base := base) Xf Df F
  exact fz1 F G0 1 ["unique"] [.a 0, .k 0] (fun _ _ _ _ _ _ us ws h1 h2 => match us, ws, h1, h2 with | [_], [_], _, _ => rfl)
theorem z_Store_of_1 {P : Program} {w : World} {K : PySem.W.Frag} {mg : Str → Option Value} {base : Heap} (Xf : FX P K mg) (Df : DX K) : Fz P w K mg base 5 (smA K "Store" "of") 1 [] (fun xs ys => pickL [.a 0, .m 0] xs [] [.str ""] ys) G_Store_of := by
  obtain ⟨fd, F⟩ := Df.d_Store_of
  have G0 := ok_Store_of (P := P) (w := w) (base := base) Xf Df F
  exact fz3 F G0 1 [] [("unique", He.Dv.v K (.str ""))] [.a 0, .m 0] [.str ""] (fun _ _ => ⟨_, _, rfl, rfl, rfl⟩) (by intro h; cases h) (fun q hq => (List.mem_cons.mp hq).elim (fun e => e ▸ List.mem_cons_self) fun h0 => nomatch h0) (fun _ _ _ _ _ _ us mv ws h1 h2 h3 => match us, mv, ws, h1, h2, h3 with | [_], [_], [], _, _, _ => ⟨_, _, _, _, _, _, rfl, rfl, rfl⟩) rfl rfl
/-! ### Store.__iter__ -/
def I_Store_iter : DE := (dFld ["Store"] "rows" (dVar 0))
theorem sc_Store_iter : FnScope ["self"] ["self"] (defScope s_Store_iter) := ⟨rfl, rfl, rfl, by decide +kernel, rfl, by decide +kernel, by decide +kernel⟩
theorem it_Store_iter {P : Program} {w : World} {K : PySem.W.Frag} {mg : Str → Option Value} {base : Heap} (Xf : FX P K mg) (Df : DX K) : ItF P w K mg base 1 (He.ma K (He.ga K "Store") "__iter__") I_Store_iter := by
  obtain ⟨fd, F⟩ := Df.d_Store_iter
  exact itF_of F sc_Store_iter Xf.f_iter (fun _ _ _ _ _ _ _ => rfl) (fun _ _ _ _ _ _ => rfl) (fun cdv A outer s H E hr => (se_fld (se_var (i := 0) rfl (.inl rfl)) Xf.a_rows_Store)) (fun _ => rfl) (fun _ => rfl)
/-! ### Store.__len__ -/
def D_Store_len : DS := (dRet (dB lenF (dCons (dFld ["Store"] "rows" (dVar 0)) (fun _ m => some (.ok [], m)))))
def B_Store_len : FD := bodyD 1 D_Store_len
theorem sc_Store_len : FnScope ["self"] ["self"] (defScope s_Store_len) := ⟨rfl, rfl, rfl, by decide +kernel, rfl, by decide +kernel, by decide +kernel⟩
theorem ok_Store_len {P : Program} {w : World} {K : PySem.W.Frag} {mg : Str → Option Value} {base : Heap} (Xf : FX P K mg) (Df : DX K) {fd : FuncData} (F : FunD K "__len__" "Store.__len__" (defArgs s_Store_len) (defBody s_Store_len) (defScope s_Store_len) (DZ.dvs K z0_Store_len) (DZ.kws K z0_Store_len) (He.ma K (He.ga K "Store") "__len__") fd) :
    Z.FnOk P w K mg base (L2.CX P w) 1 (He.ma K (He.ga K "Store") "__len__") fd ["self"] (spZ K 1 B_Store_len) := by
  have S := sc_Store_len
  exact body_ok F S fun cdv A outer s H E hr => (sss_one (ss_ret (se_len rfl Xf.f_len (sa_cons (se_fld (se_var (i := 0) rfl (.inl rfl)) Xf.a_rows_Store) sa_nil))))
abbrev G_Store_len : FD := B_Store_len
theorem z_Store_len_1 {P : Program} {w : World} {K : PySem.W.Frag} {mg : Str → Option Value} {base : Heap} (Xf : FX P K mg) (Df : DX K) : Fz P w K mg base 1 (He.ma K (He.ga K "Store") "__len__") 1 [] (fun xs ys => pickL [.a 0] xs [] [] ys) G_Store_len := by
  obtain ⟨fd, F⟩ := Df.d_Store_len
  have G0 := ok_Store_len (P := P) (w := w) (base := base) Xf Df F
  exact fz1 F G0 1 [] [.a 0] (fun _ _ _ _ _ _ us ws h1 h2 => match us, ws, h1, h2 with | [_], [], _, _ => rfl)
/-! ### Store.row_of -/
def D_Store_row_of : DS := (dSeq (dIfS (tTr (dCall 1 0 c_is_value_1 (dCons (dVar 1) (fun _ m => some (.ok [], m))) dNone))
  (dFor (iSeqD (dFld ["Store"] "rows" (dVar 0))) (gVar 2)
  (dIfS (b2 eqF (d2 ixA (dVar 2) (dC (.int 0))) (dVar 1))
  (dRet (dVar 2))
  dNil))
  dNil)
  (dRet (dC .non)))
def B_Store_row_of : FD := bodyD 3 D_Store_row_of
theorem sc_Store_row_of : FnScope ["self", "key", "row"] ["self", "key"] (defScope s_Store_row_of) := ⟨rfl, rfl, rfl, by decide +kernel, rfl, by decide +kernel, by decide +kernel⟩
theorem ok_Store_row_of {P : Program} {w : World} {K : PySem.W.Frag} {mg : Str → Option Value} {base : Heap} (Xf : FX P K mg) (Df : DX K) {fd : FuncData} (F : FunD K "row_of" "Store.row_of" (defArgs s_Store_row_of) (defBody s_Store_row_of) (defScope s_Store_row_of) (DZ.dvs K z0_Store_row_of) (DZ.kws K z0_Store_row_of) (He.ma K (He.ga K "Store") "row_of") fd) :
    Z.FnOk P w K mg base (L2.CX P w) 2 (He.ma K (He.ga K "Store") "row_of") fd ["self", "key"] (spZ K 2 B_Store_row_of) := by
  have S := sc_Store_row_of
  exact body_ok F S fun cdv A outer s H E hr => (sss_cons (ss_if (st_tru (se_call (c_is_value_1_runs Xf Df (hr.mono (by decide : 1 ≤ 1))) (kp_is_value Df) Xf.g_is_value rfl (sa_cons (se_var (i := 1) rfl (.inl rfl)) sa_nil)))
  (sss_one (ss_for (passes_of rfl) rfl (si_seq (se_fld (se_var (i := 0) rfl (.inl rfl)) Xf.a_rows_Store)) (sg_name (i := 2) S.nd rfl (.inl rfl))
  (sss_one (ss_if (st_eq (u64 hr) (se_ix (se_var (i := 2) rfl (.inl rfl)) se_int) (se_var (i := 1) rfl (.inl rfl)))
  (sss_one (ss_ret (se_var (i := 2) rfl (.inl rfl))))
  sss_nil))))
  sss_nil)
  (sss_one (ss_ret se_non)))
abbrev G_Store_row_of : FD := B_Store_row_of
theorem z_Store_row_of_2 {P : Program} {w : World} {K : PySem.W.Frag} {mg : Str → Option Value} {base : Heap} (Xf : FX P K mg) (Df : DX K) : Fz P w K mg base 2 (He.ma K (He.ga K "Store") "row_of") 2 [] (fun xs ys => pickL [.a 0, .a 1] xs [] [] ys) G_Store_row_of := by
  obtain ⟨fd, F⟩ := Df.d_Store_row_of
  have G0 := ok_Store_row_of (P := P) (w := w) (base := base) Xf Df F
  exact fz1 F G0 2 [] [.a 0, .a 1] (fun _ _ _ _ _ _ us ws h1 h2 => match us, ws, h1, h2 with | [_, _], [], _, _ => rfl)
/-! ### Store.__contains__ -/
def D_Store_contains : DS := (dRet (d2 (isA true) (dMeth "Store" "row_of" 1 0 (fun xs ys => pickL [.a 0, .a 1] xs [] [] ys) G_Store_row_of (dVar 0) (dCons (dVar 1) (fun _ m => some (.ok [], m))) dNone) (dC .non)))
def B_Store_contains : FD := bodyD 2 D_Store_contains
theorem sc_Store_contains : FnScope ["self", "key"] ["self", "key"] (defScope s_Store_contains) := ⟨rfl, rfl, rfl, by decide +kernel, rfl, by decide +kernel, by decide +kernel⟩
theorem ok_Store_contains {P : Program} {w : World} {K : PySem.W.Frag} {mg : Str → Option Value} {base : Heap} (Xf : FX P K mg) (Df : DX K) {fd : FuncData} (F : FunD K "__contains__" "Store.__contains__" (defArgs s_Store_contains) (defBody s_Store_contains) (defScope s_Store_contains) (DZ.dvs K z0_Store_contains) (DZ.kws K z0_Store_contains) (He.ma K (He.ga K "Store") "__contains__") fd) :
    Z.FnOk P w K mg base (L2.CX P w) 3 (He.ma K (He.ga K "Store") "__contains__") fd ["self", "key"] (spZ K 2 B_Store_contains) := by
  have S := sc_Store_contains
  exact body_ok F S fun cdv A outer s H E hr => (sss_one (ss_ret (se_isnot (se_meth (se_var (i := 0) rfl (.inl rfl)) Xf.c_Store Xf.m_Store_row_of (z_Store_row_of_2 Xf Df) (hr.mono (by decide : 2 ≤ 2)) (sa_cons (se_var (i := 1) rfl (.inl rfl)) sa_nil)) se_non)))
abbrev G_Store_contains : FD := B_Store_contains
theorem z_Store_contains_2 {P : Program} {w : World} {K : PySem.W.Frag} {mg : Str → Option Value} {base : Heap} (Xf : FX P K mg) (Df : DX K) : Fz P w K mg base 3 (He.ma K (He.ga K "Store") "__contains__") 2 [] (fun xs ys => pickL [.a 0, .a 1] xs [] [] ys) G_Store_contains := by
  obtain ⟨fd, F⟩ := Df.d_Store_contains
  have G0 := ok_Store_contains (P := P) (w := w) (base := base) Xf Df F
  exact fz1 F G0 2 [] [.a 0, .a 1] (fun _ _ _ _ _ _ us ws h1 h2 => match us, ws, h1, h2 with | [_, _], [], _, _ => rfl)
/-! ### Store.__getitem__ -/
def D_Store_getitem : DS := (dSeq (dAsg 2 (dMeth "Store" "row_of" 1 0 (fun xs ys => pickL [.a 0, .a 1] xs [] [] ys) G_Store_row_of (dVar 0) (dCons (dVar 1) (fun _ m => some (.ok [], m))) dNone))
  (dSeq (dIfS (b2 (isA false) (dVar 2) (dC .non))
  (dRaise (dMk "NoRow" "key" (dCons (dVar 1) (fun _ m => some (.ok [], m)))))
  dNil)
  (dRet (dTup (dCons (d2 ixA (dVar 2) (dC (.int 1))) (dCons (d2 ixA (dVar 2) (dC (.int 2))) (fun _ m => some (.ok [], m))))))))
def B_Store_getitem : FD := bodyD 3 D_Store_getitem
theorem sc_Store_getitem : FnScope ["self", "key", "row"] ["self", "key"] (defScope s_Store_getitem) := ⟨rfl, rfl, rfl, by decide +kernel, rfl, by decide +kernel, by decide +kernel⟩
theorem ok_Store_getitem {P : Program} {w : World} {K : PySem.W.Frag} {mg : Str → Option Value} {base : Heap} (Xf : FX P K mg) (Df : DX K) {fd : FuncData} (F : FunD K "__getitem__" "Store.__getitem__" (defArgs s_Store_getitem) (defBody s_Store_getitem) (defScope s_Store_getitem) (DZ.dvs K z0_Store_getitem) (DZ.kws K z0_Store_getitem) (He.ma K (He.ga K "Store") "__getitem__") fd) :
    Z.FnOk P w K mg base (L2.CX P w) 3 (He.ma K (He.ga K "Store") "__getitem__") fd ["self", "key"] (spZ K 2 B_Store_getitem) := by
  have S := sc_Store_getitem
  exact body_ok F S fun cdv A outer s H E hr => (sss_cons (ss_set (i := 2) S.nd rfl (.inl rfl) (se_meth (se_var (i := 0) rfl (.inl rfl)) Xf.c_Store Xf.m_Store_row_of (z_Store_row_of_2 Xf Df) (hr.mono (by decide : 2 ≤ 2)) (sa_cons (se_var (i := 1) rfl (.inl rfl)) sa_nil)))
  (sss_cons (ss_if (st_is (se_var (i := 2) rfl (.inl rfl)) se_non)
  (sss_one (ss_raise rfl (sm_errN Xf.e_NoRow Xf.f_super (hr.mono (by decide : 1 ≤ 2)) Xf.g_NoRow rfl (sa_cons (se_var (i := 1) rfl (.inl rfl)) sa_nil))))
  sss_nil)
  (sss_one (ss_ret (se_tup (sa_cons (se_ix (se_var (i := 2) rfl (.inl rfl)) se_int) (sa_cons (se_ix (se_var (i := 2) rfl (.inl rfl)) se_int) sa_nil)))))))
abbrev G_Store_getitem : FD := B_Store_getitem
theorem z_Store_getitem_2 {P : Program} {w : World} {K : PySem.W.Frag} {mg : Str → Option Value} {base : Heap} (Xf : FX P K mg) (Df : DX K) : Fz P w K mg base 3 (He.ma K (He.ga K "Store") "__getitem__") 2 [] (fun xs ys => pickL [.a 0, .a 1] xs [] [] ys) G_Store_getitem := by
  obtain ⟨fd, F⟩ := Df.d_Store_getitem
  have G0 := ok_Store_getitem (P := P) (w := w) (base := base) Xf Df F
  exact fz1 F G0 2 [] [.a 0, .a 1] (fun _ _ _ _ _ _ us ws h1 h2 => match us, ws, h1, h2 with | [_, _], [], _, _ => rfl)
/-! ### _law_is_store -/
def D_law_is_store_0 : DS := (dAsg 3 (dFrz (dLF sortUD (dCons (dVar 1) (fun _ m => some (.ok [], m))))))
def D_law_is_store_1_0 : DS := (dRet (dC (.bl false)))
def D_law_is_store_1 : DS := (dIfS (tOr2 (tNot1 (tTr (dB (isiF csZ (kitT kitL)) (dCons (dFld ["Store"] "rows" (dVar 0)) (dCons (dC (.ty "tuple")) (fun _ m => some (.ok [], m))))))) (tOr2 (b2 neF (dB reprF (dCons (dFrz (dListOf (dCons (dFld ["Store"] "rows" (dVar 0)) (fun _ m => some (.ok [], m))))) (fun _ m => some (.ok [], m)))) (dB reprF (dCons (dVar 3) (fun _ m => some (.ok [], m))))) (b2 neF (dFld ["Store"] "unique" (dVar 0)) (dVar 2))))
  D_law_is_store_1_0
  dNil)
def D_law_is_store_2_0 : DS := (dRet (dC (.bl false)))
def D_law_is_store_2 : DS := (dIfS (tOr2 (b2 neF (dLenO "Store" (fun xs ys => pickL [.a 0] xs [] [] ys) G_Store_len (dCons (dVar 0) (fun _ m => some (.ok [], m)))) (dB lenF (dCons (dVar 3) (fun _ m => some (.ok [], m))))) (b2 neF (dB reprF (dCons (dFrz (dLc (iOwnD "Store" I_Store_iter (dVar 0)) (gcVar 4) dYes (dVar 4) ([("_law_row", 4)].map (·.2)))) (fun _ m => some (.ok [], m)))) (dB reprF (dCons (dVar 3) (fun _ m => some (.ok [], m))))))
  D_law_is_store_2_0
  dNil)
def D_law_is_store_3 : DS := (dAsgL 5 false (dLc (iSeqD (dVar 3)) (gcVar 4) dYes (d2 ixA (dVar 4) (dC (.int 0))) ([("_law_row", 4)].map (·.2))))
def D_law_is_store_4_0_0 : DS := (dRet (dC (.bl false)))
def D_law_is_store_4_0 : DS := (dIfS (tOr2 (tNot1 (tTr (dB (isiF csZ (kitT kitL)) (dCons (dIxO "Store" (fun xs ys => pickL [.a 0, .a 1] xs [] [] ys) G_Store_getitem (dVar 0) (dVar 6)) (dCons (dC (.ty "tuple")) (fun _ m => some (.ok [], m))))))) (tOr2 (b2 neF (dB reprF (dCons (dIxO "Store" (fun xs ys => pickL [.a 0, .a 1] xs [] [] ys) G_Store_getitem (dVar 0) (dVar 6)) (fun _ m => some (.ok [], m)))) (dB reprF (dCons (dTup (dCons (dVar 7) (dCons (dVar 8) (fun _ m => some (.ok [], m))))) (fun _ m => some (.ok [], m))))) (tB' (dInO true "Store" (fun xs ys => pickL [.a 0, .a 1] xs [] [] ys) G_Store_contains (dVar 6) (dVar 0)))))
  D_law_is_store_4_0_0
  dNil)
def D_law_is_store_4_1_0_0 : DS := (dRet (dC (.bl false)))
def D_law_is_store_4_1_0 : DS := (dIfS (b2 neF (dInO false "Store" (fun xs ys => pickL [.a 0, .a 1] xs [] [] ys) G_Store_contains (dVar 9) (dVar 0)) (d2 (inA false) (dVar 9) (dVar 5)))
  D_law_is_store_4_1_0_0
  dNil)
def D_law_is_store_4_1 : DS := (dFor (iLst (dFrz (dLst (dCons (d2 subI (dVar 6) (dC (.int 1))) (dCons (d2 addA (dVar 6) (dC (.int 1))) (dCons (d2 addA (dVar 6) (dC (.int 1000))) (dCons (d2 subI (dVar 6) (dC (.int 1000))) (fun _ m => some (.ok [], m))))))))) (gVar 9)
  D_law_is_store_4_1_0)
def D_law_is_store_4 : DS := (dFor (iSeqD (dVar 3)) (gTupD (gsCons (gVar 6) (gsCons (gVar 7) (gsCons (gVar 8) gsNil))))
  (dSeq D_law_is_store_4_0
  D_law_is_store_4_1))
def D_law_is_store_5 : DS := (dRet (dC (.bl true)))
def D_law_is_store : DS := (dSeq D_law_is_store_0
  (dSeq D_law_is_store_1
  (dSeq D_law_is_store_2
  (dSeq D_law_is_store_3
  (dSeq D_law_is_store_4
  D_law_is_store_5)))))
def B_law_is_store : FD := bodyD 10 D_law_is_store
theorem sc_law_is_store : FnScope ["_law_store", "_law_rows_here", "_law_unique", "_law_due", "_law_row", "_law_keys", "_law_key", "_law_a", "_law_b", "_law_near"] ["_law_store", "_law_rows_here", "_law_unique"] (defScope s_law_is_store) := ⟨rfl, rfl, rfl, by decide +kernel, rfl, by decide +kernel, by decide +kernel⟩
theorem ok_law_is_store {P : Program} {w : World} {K : PySem.W.Frag} {mg : Str → Option Value} {base : Heap} (Xf : FX P K mg) (Df : DX K) {fd : FuncData} (F : FunD K "_law_is_store" "_law_is_store" (defArgs s_law_is_store) (defBody s_law_is_store) (defScope s_law_is_store) (DZ.dvs K z0_law_is_store) (DZ.kws K z0_law_is_store) (He.ga K "_law_is_store") fd) :
    Z.FnOk P w K mg base (L2.CX P w) 5 (He.ga K "_law_is_store") fd ["_law_store", "_law_rows_here", "_law_unique"] (spZ K 3 B_law_is_store) := by
  have S := sc_law_is_store
  exact body_ok F S fun cdv A outer s H E hr => (sss_cons (ss_set (i := 3) S.nd rfl (.inl rfl) (se_frz (sl_sortU rfl rfl Xf.f_sorted (sa_cons (se_var (i := 1) rfl (.inl rfl)) sa_nil))))
  (sss_cons (ss_if (st_w (sw_or (st_not (st_tru (se_isi Xf.ins Xf.kit rfl Xf.f_isinstance (sa_cons (se_fld (se_var (i := 0) rfl (.inl rfl)) Xf.a_rows_Store) (sa_cons (se_ty rfl Xf.f_tuple (by decide +kernel)) sa_nil))))) (sw_or (st_ne (u64 hr) (se_repr (hr.mono (Nat.zero_le _)) rfl Xf.f_repr (sa_cons (se_frz (sl_list rfl Xf.f_list (sa_cons (se_fld (se_var (i := 0) rfl (.inl rfl)) Xf.a_rows_Store) sa_nil))) sa_nil)) (se_repr (hr.mono (Nat.zero_le _)) rfl Xf.f_repr (sa_cons (se_var (i := 3) rfl (.inl rfl)) sa_nil))) (sw_or1 (st_ne (u64 hr) (se_fld (se_var (i := 0) rfl (.inl rfl)) Xf.a_unique_Store) (se_var (i := 2) rfl (.inl rfl)))))))
  (sss_one (ss_ret se_bl))
  sss_nil)
  (sss_cons (ss_if (st_w (sw_or (st_ne (u64 hr) (se_lenO rfl Xf.f_len Xf.o_Store___len__ (z_Store_len_1 Xf Df) (hr.mono (by decide : 2 ≤ 4)) (sa_cons (se_var (i := 0) rfl (.inl rfl)) sa_nil)) (se_len rfl Xf.f_len (sa_cons (se_var (i := 3) rfl (.inl rfl)) sa_nil))) (sw_or1 (st_ne (u64 hr) (se_repr (hr.mono (Nat.zero_le _)) rfl Xf.f_repr (sa_cons (se_frz (sl_lc rfl S.nd (si_own Xf.o_Store___iter__ (it_Store_iter Xf Df) (hr.mono (by decide : 1 ≤ 4)) fld_keep (se_var (i := 0) rfl (.inl rfl))) (own := [("_law_row", 4)]) (blkOk_by rfl) (fun _ _ _ _ _ => (sgc_name (i := 4) S.nd rfl (.inl rfl))) (fun _ _ _ _ _ => sts_nil) (fun _ _ _ _ _ => (se_var (i := 4) rfl (.inl rfl))))) sa_nil)) (se_repr (hr.mono (Nat.zero_le _)) rfl Xf.f_repr (sa_cons (se_var (i := 3) rfl (.inl rfl)) sa_nil))))))
  (sss_one (ss_ret se_bl))
  sss_nil)
  (sss_cons (ss_setLc (i := 5) (cell := false) rfl S.nd rfl rfl (by rfl) (si_seq (se_var (i := 3) rfl (.inl rfl))) (own := [("_law_row", 4)]) (blkOk_by rfl) (fun _ _ _ _ _ => (sgc_name (i := 4) S.nd rfl (.inl rfl))) (fun _ _ _ _ _ => sts_nil) (fun _ _ _ _ _ => (se_ix (se_var (i := 4) rfl (.inl rfl)) se_int)))
  (sss_cons (ss_for (passes_of rfl) rfl (si_seq (se_var (i := 3) rfl (.inl rfl))) (sg_tup rfl (sgs_cons (sg_name (i := 6) S.nd rfl (.inl rfl)) (sgs_cons (sg_name (i := 7) S.nd rfl (.inl rfl)) (sgs_cons (sg_name (i := 8) S.nd rfl (.inl rfl)) sgs_nil))) (gsl_cons (gsl_cons (gsl_cons gsl_nil))))
  (sss_cons (ss_if (st_w (sw_or (st_not (st_tru (se_isi Xf.ins Xf.kit rfl Xf.f_isinstance (sa_cons (se_ixO Xf.o_Store___getitem__ Xf.fi_Store_getitem (z_Store_getitem_2 Xf Df) (hr.mono (by decide : 4 ≤ 4)) (se_var (i := 0) rfl (.inl rfl)) (se_var (i := 6) rfl (.inl rfl))) (sa_cons (se_ty rfl Xf.f_tuple (by decide +kernel)) sa_nil))))) (sw_or (st_ne (u64 hr) (se_repr (hr.mono (Nat.zero_le _)) rfl Xf.f_repr (sa_cons (se_ixO Xf.o_Store___getitem__ Xf.fi_Store_getitem (z_Store_getitem_2 Xf Df) (hr.mono (by decide : 4 ≤ 4)) (se_var (i := 0) rfl (.inl rfl)) (se_var (i := 6) rfl (.inl rfl))) sa_nil)) (se_repr (hr.mono (Nat.zero_le _)) rfl Xf.f_repr (sa_cons (se_tup (sa_cons (se_var (i := 7) rfl (.inl rfl)) (sa_cons (se_var (i := 8) rfl (.inl rfl)) sa_nil))) sa_nil))) (sw_or1 (st_cmpE (se_notinO Xf.o_Store___contains__ (z_Store_contains_2 Xf Df) (hr.mono (by decide : 3 ≤ 4)) (se_var (i := 6) rfl (.inl rfl)) (se_var (i := 0) rfl (.inl rfl))))))))
  (sss_one (ss_ret se_bl))
  sss_nil)
  (sss_one (ss_for (passes_of rfl) rfl (si_list (se_frz (sl_lst (sa_cons (se_sub (se_var (i := 6) rfl (.inl rfl)) se_int) (sa_cons (se_add (se_var (i := 6) rfl (.inl rfl)) se_int) (sa_cons (se_add (se_var (i := 6) rfl (.inl rfl)) se_int) (sa_cons (se_sub (se_var (i := 6) rfl (.inl rfl)) se_int) sa_nil))))))) (sg_name (i := 9) S.nd rfl (.inl rfl))
  (sss_one (ss_if (st_ne (u64 hr) (se_inO Xf.o_Store___contains__ (z_Store_contains_2 Xf Df) (hr.mono (by decide : 3 ≤ 4)) (se_var (i := 9) rfl (.inl rfl)) (se_var (i := 0) rfl (.inl rfl))) (se_in (u65 hr) (se_var (i := 9) rfl (.inl rfl)) (se_var (i := 5) rfl (.inl rfl))))
  (sss_one (ss_ret se_bl))
  sss_nil))))))
  (sss_one (ss_ret se_bl)))))))
abbrev G_law_is_store : FD := B_law_is_store
theorem z_law_is_store_3 {P : Program} {w : World} {K : PySem.W.Frag} {mg : Str → Option Value} {base : Heap} (Xf : FX P K mg) (Df : DX K) : Fz P w K mg base 5 (He.ga K "_law_is_store") 3 [] (fun xs ys => pickL [.a 0, .a 1, .a 2] xs [] [] ys) G_law_is_store := by
  obtain ⟨fd, F⟩ := Df.d_law_is_store
  have G0 := ok_law_is_store (P := P) (w := w) (base := base) Xf Df F
  exact fz1 F G0 3 [] [.a 0, .a 1, .a 2] (fun _ _ _ _ _ _ us ws h1 h2 => match us, ws, h1, h2 with | [_, _, _], [], _, _ => rfl)
def c_law_is_store_3 : List Vl → List Vl → Mem → Option (R Vl × Mem) := fun xs ys => G_law_is_store ((fun xs ys => pickL [.a 0, .a 1, .a 2] xs [] [] ys) xs ys)
theorem c_law_is_store_3_runs {Y : Cx} (Xf : FX Y.prog Y.K Y.mg) (Df : DX Y.K) (hr : Z.Room 5 Y.A) : Z.Runs Y (He.ga Y.K "_law_is_store") 3 [] c_law_is_store_3 := (z_law_is_store_3 Xf Df).runs hr
/-! ### Store.__eq__ -/
def D_Store_eq : DS := (dRet (dAndV (dB (isiF csZ (kitT kitL)) (dCons (dVar 1) (dCons (dC (.glo "Store")) (fun _ m => some (.ok [], m))))) (dAndV (d2 eqF (dFld ["Store"] "rows" (dVar 0)) (dFld ["Store"] "rows" (dVar 1))) (d2 eqF (dFld ["Store"] "unique" (dVar 0)) (dFld ["Store"] "unique" (dVar 1))))))
def B_Store_eq : FD := bodyD 2 D_Store_eq
theorem sc_Store_eq : FnScope ["self", "other"] ["self", "other"] (defScope s_Store_eq) := ⟨rfl, rfl, rfl, by decide +kernel, rfl, by decide +kernel, by decide +kernel⟩
theorem ok_Store_eq {P : Program} {w : World} {K : PySem.W.Frag} {mg : Str → Option Value} {base : Heap} (Xf : FX P K mg) (Df : DX K) {fd : FuncData} (F : FunD K "__eq__" "Store.__eq__" (defArgs s_Store_eq) (defBody s_Store_eq) (defScope s_Store_eq) (DZ.dvs K z0_Store_eq) (DZ.kws K z0_Store_eq) (He.ma K (He.ga K "Store") "__eq__") fd) :
    Z.FnOk P w K mg base (L2.CX P w) 1 (He.ma K (He.ga K "Store") "__eq__") fd ["self", "other"] (spZ K 2 B_Store_eq) := by
  have S := sc_Store_eq
  exact body_ok F S fun cdv A outer s H E hr => (sss_one (ss_ret (se_and (se_isi Xf.ins Xf.kit rfl Xf.f_isinstance (sa_cons (se_var (i := 1) rfl (.inl rfl)) (sa_cons (se_glo rfl Xf.g_Store) sa_nil))) (se_and (se_eq (u64 hr) (se_fld (se_var (i := 0) rfl (.inl rfl)) Xf.a_rows_Store) (se_fld (se_var (i := 1) rfl (.inl rfl)) Xf.a_rows_Store)) (se_one (se_eq (u64 hr) (se_fld (se_var (i := 0) rfl (.inl rfl)) Xf.a_unique_Store) (se_fld (se_var (i := 1) rfl (.inl rfl)) Xf.a_unique_Store)))))))
abbrev G_Store_eq : FD := B_Store_eq
theorem z_Store_eq_2 {P : Program} {w : World} {K : PySem.W.Frag} {mg : Str → Option Value} {base : Heap} (Xf : FX P K mg) (Df : DX K) : Fz P w K mg base 1 (He.ma K (He.ga K "Store") "__eq__") 2 [] (fun xs ys => pickL [.a 0, .a 1] xs [] [] ys) G_Store_eq := by
  obtain ⟨fd, F⟩ := Df.d_Store_eq
  have G0 := ok_Store_eq (P := P) (w := w) (base := base) Xf Df F
  exact fz1 F G0 2 [] [.a 0, .a 1] (fun _ _ _ _ _ _ us ws h1 h2 => match us, ws, h1, h2 with | [_, _], [], _, _ => rfl)
/-! ### law -/
def D_law_0_0 : DS := (dAsg 2 (dCall 2 0 h_law_start_2 (dCons (dVar 0) (dCons (dVar 1) (fun _ m => some (.ok [], m)))) dNone))
def D_law_0_1 : DS := (dAsg 3 (dCall 2 0 c_law_pick_2 (dCons (dVar 2) (dCons (dFrz (dLst (dCons (dC (.str "")) (dCons (dC (.str "a")) (dCons (dC (.str "b")) (dCons (dC (.str "ab")) (fun _ m => some (.ok [], m)))))))) (fun _ m => some (.ok [], m)))) dNone))
def D_law_0_2 : DS := (dAsg 4 (dCall 3 0 c_law_rows_3 (dCons (dVar 2) (dCons (dCall 2 0 c_law_pick_2 (dCons (dVar 2) (dCons (dFrz (dLst (dCons (dC (.int 3)) (dCons (dC (.int 4)) (dCons (dC (.int 9)) (dCons (dC (.int 40)) (fun _ m => some (.ok [], m)))))))) (fun _ m => some (.ok [], m)))) dNone) (dCons (dVar 3) (fun _ m => some (.ok [], m))))) dNone))
def D_law_0_3 : DS := (dAsg 5 (dCall 2 0 c_law_turned_2 (dCons (dVar 2) (dCons (dVar 4) (fun _ m => some (.ok [], m)))) dNone))
def D_law_0_4 : DS := (dAsg 6 (dB reprF (dCons (dVar 5) (fun _ m => some (.ok [], m)))))
def D_law_0_5 : DS := (dAsg 7 (dSMeth "Store" 1 1 (fun xs ys => pickL [.a 0, .k 0] xs [] [] ys) G_Store_of (dC (.glo "Store")) (dCons (dVar 5) (fun _ m => some (.ok [], m))) (dCons (dVar 3) (fun _ m => some (.ok [], m)))))
def D_law_0_6_0 : DS := (dRet (dC (.bl false)))
def D_law_0_6 : DS := (dIfS (tOr2 (b2 neF (dB reprF (dCons (dVar 5) (fun _ m => some (.ok [], m)))) (dVar 6)) (tNot1 (tTr (dCall 3 0 c_law_is_store_3 (dCons (dVar 7) (dCons (dVar 4) (dCons (dVar 3) (fun _ m => some (.ok [], m))))) dNone))))
  D_law_0_6_0
  dNil)
def D_law_0_7 : DS := (dDrop (dM "list" (lstM appH) (dVar 5) (dCons (dTup (dCons (dC (.int 0)) (dCons (dC (.int 0)) (dCons (dC (.int 0)) (fun _ m => some (.ok [], m)))))) (fun _ m => some (.ok [], m)))))
def D_law_0_8 : DS := (dDrop (dM "list" (lstM revH) (dVar 5) dNone))
def D_law_0_9_0 : DS := (dRet (dC (.bl false)))
def D_law_0_9 : DS := (dIfS (tNot1 (tTr (dCall 3 0 c_law_is_store_3 (dCons (dVar 7) (dCons (dVar 4) (dCons (dVar 3) (fun _ m => some (.ok [], m))))) dNone)))
  D_law_0_9_0
  dNil)
def D_law_0_10 : DS := (dAsg 8 (dSMeth "Store" 1 0 (fun xs ys => pickL [.a 0, .m 0] xs [] [.str ""] ys) G_Store_of (dC (.glo "Store")) (dCons (dB tupleF (dCons (dCall 2 0 c_law_turned_2 (dCons (dVar 2) (dCons (dVar 4) (fun _ m => some (.ok [], m)))) dNone) (fun _ m => some (.ok [], m)))) (fun _ m => some (.ok [], m))) dNone))
def D_law_0_11_0 : DS := (dRet (dC (.bl false)))
def D_law_0_11 : DS := (dIfS (tOr2 (tNot1 (tTr (dCall 3 0 c_law_is_store_3 (dCons (dVar 8) (dCons (dVar 4) (dCons (dC (.str "")) (fun _ m => some (.ok [], m))))) dNone))) (b2 neF (dCmpO "Store" csZ tsZ (fun xs ys => pickL [.a 0, .a 1] xs [] [] ys) G_Store_eq (dVar 7) (dVar 8)) (d2 eqF (dVar 3) (dC (.str "")))))
  D_law_0_11_0
  dNil)
def D_law_0_12_0 : DS := (dRet (dC (.bl false)))
def D_law_0_12 : DS := (dIfS (tNot1 (tB' (dCmpO "Store" csZ tsZ (fun xs ys => pickL [.a 0, .a 1] xs [] [] ys) G_Store_eq (dVar 7) (dSMeth "Store" 1 1 (fun xs ys => pickL [.a 0, .k 0] xs [] [] ys) G_Store_of (dC (.glo "Store")) (dCons (dCall 2 0 c_law_turned_2 (dCons (dVar 2) (dCons (dVar 4) (fun _ m => some (.ok [], m)))) dNone) (fun _ m => some (.ok [], m))) (dCons (dVar 3) (fun _ m => some (.ok [], m)))))))
  D_law_0_12_0
  dNil)
def D_law_0_13_0 : DS := (dPar 10 11 (dCons (dSMeth "Store" 1 1 (fun xs ys => pickL [.a 0, .k 0] xs [] [] ys) G_Store_of (dC (.glo "Store")) (dCons (dSl (dVar 4) (dPart (dC (.int 1))) (fun _ m => some (.ok none, m))) (fun _ m => some (.ok [], m))) (dCons (dVar 3) (fun _ m => some (.ok [], m)))) (dCons (dCall 1 1 n_Store_init_S1_unique (dCons (d2 ixA (dVar 4) (dC (.int 0))) (fun _ m => some (.ok [], m))) (dCons (dVar 3) (fun _ m => some (.ok [], m)))) (fun _ m => some (.ok [], m)))))
def D_law_0_13_1_0 : DS := (dRet (dC (.bl false)))
def D_law_0_13_1 : DS := (dIfS (tOr2 (tB' (dCmpO "Store" csZ tsZ (fun xs ys => pickL [.a 0, .a 1] xs [] [] ys) G_Store_eq (dVar 7) (dVar 10))) (tOr2 (tB' (dCmpO "Store" csZ tsZ (fun xs ys => pickL [.a 0, .a 1] xs [] [] ys) G_Store_eq (dVar 10) (dVar 7))) (tNot1 (tTr (dCall 3 0 c_law_is_store_3 (dCons (dVar 11) (dCons (dSl (dVar 4) (fun _ m => some (.ok none, m)) (dPart (dC (.int 1)))) (dCons (dVar 3) (fun _ m => some (.ok [], m))))) dNone)))))
  D_law_0_13_1_0
  dNil)
def D_law_0_13_2 : DS := (dAsgG (gTupD (gsCons (gVar 12) (gsCons (gVar 13) (gsCons (gVar 14) gsNil)))) (d2 ixA (dVar 4) (dC (.int 0))))
def D_law_0_13_3 : DS := (dAsg 9 (d2 addA (dFrz (dLst (dCons (dTup (dCons (dVar 12) (dCons (dVar 13) (dCons (d2 modI (dB intFn (dCons (d2 addA (dVar 14) (dC (.int 500))) (fun _ m => some (.ok [], m)))) (dC (.int 1000))) (fun _ m => some (.ok [], m)))))) (fun _ m => some (.ok [], m))))) (dSl (dVar 4) (dPart (dC (.int 1))) (fun _ m => some (.ok none, m)))))
def D_law_0_13_4_0 : DS := (dRet (dC (.bl false)))
def D_law_0_13_4 : DS := (dIfS (tOr2 (tB' (dCmpO "Store" csZ tsZ (fun xs ys => pickL [.a 0, .a 1] xs [] [] ys) G_Store_eq (dSMeth "Store" 1 0 (fun xs ys => pickL [.a 0, .m 0] xs [] [.str ""] ys) G_Store_of (dC (.glo "Store")) (dCons (dVar 9) (fun _ m => some (.ok [], m))) dNone) (dVar 8))) (tB' (dCmpO "Store" csZ tsZ (fun xs ys => pickL [.a 0, .a 1] xs [] [] ys) G_Store_eq (dVar 8) (dSMeth "Store" 1 0 (fun xs ys => pickL [.a 0, .m 0] xs [] [.str ""] ys) G_Store_of (dC (.glo "Store")) (dCons (dVar 9) (fun _ m => some (.ok [], m))) dNone))))
  D_law_0_13_4_0
  dNil)
def D_law_0_13 : DS := (dIfS (b2 neF (dVar 4) (dFrz (dLst (fun _ m => some (.ok [], m)))))
  (dSeq D_law_0_13_0
  (dSeq D_law_0_13_1
  (dSeq D_law_0_13_2
  (dSeq D_law_0_13_3
  D_law_0_13_4))))
  dNil)
def D_law_0_14_0 : DS := (dRet (dC (.bl false)))
def D_law_0_14 : DS := (dIfS (tAnd2 (b2 gtI (dB lenF (dCons (dVar 4) (fun _ m => some (.ok [], m)))) (dC (.int 2))) (tNot1 (tTr (dCall 3 0 c_law_is_store_3 (dCons (dCall 3 1 n_Store_init_S1_unique (dCons (d2 ixA (dVar 4) (dC (.int 2))) (dCons (d2 ixA (dVar 4) (dC (.int 0))) (dCons (d2 ixA (dVar 4) (dC (.int 1))) (fun _ m => some (.ok [], m))))) (dCons (dVar 3) (fun _ m => some (.ok [], m)))) (dCons (dSl (dVar 4) (fun _ m => some (.ok none, m)) (dPart (dC (.int 3)))) (dCons (dVar 3) (fun _ m => some (.ok [], m))))) dNone))))
  D_law_0_14_0
  dNil)
def D_law_0 : DS := (dFor (iRg1 (dCons (dB (two maxZ) (dCons (dC (.int 1)) (dCons (dB (two minZ) (dCons (dC (.int 4)) (dCons (dB lenF (dCons (dVar 0) (fun _ m => some (.ok [], m)))) (fun _ m => some (.ok [], m))))) (fun _ m => some (.ok [], m))))) (fun _ m => some (.ok [], m)))) (gVar 1)
  (dSeq D_law_0_0
  (dSeq D_law_0_1
  (dSeq D_law_0_2
  (dSeq D_law_0_3
  (dSeq D_law_0_4
  (dSeq D_law_0_5
  (dSeq D_law_0_6
  (dSeq D_law_0_7
  (dSeq D_law_0_8
  (dSeq D_law_0_9
  (dSeq D_law_0_10
  (dSeq D_law_0_11
  (dSeq D_law_0_12
  (dSeq D_law_0_13
  D_law_0_14)))))))))))))))
def D_law_1 : DS := (dRet (dAndV (dCall 3 0 c_law_is_store_3 (dCons (dCall 0 0 n_Store_init_S1 dNone dNone) (dCons (dFrz (dLst (fun _ m => some (.ok [], m)))) (dCons (dC (.str "")) (fun _ m => some (.ok [], m))))) dNone) (dAndV (dCall 3 0 c_law_is_store_3 (dCons (dCall 0 1 n_Store_init_S1_unique dNone (dCons (dC (.str "ab")) (fun _ m => some (.ok [], m)))) (dCons (dFrz (dLst (fun _ m => some (.ok [], m)))) (dCons (dC (.str "ab")) (fun _ m => some (.ok [], m))))) dNone) (dCmpO "Store" csZ tsZ (fun xs ys => pickL [.a 0, .a 1] xs [] [] ys) G_Store_eq (dCall 0 0 n_Store_init_S1 dNone dNone) (dSMeth "Store" 1 0 (fun xs ys => pickL [.a 0, .m 0] xs [] [.str ""] ys) G_Store_of (dC (.glo "Store")) (dCons (dFrz (dLst (fun _ m => some (.ok [], m)))) (fun _ m => some (.ok [], m))) dNone)))))
def D_law : DS := (dSeq D_law_0
  D_law_1)
def B_law : FD := bodyD 15 D_law
theorem sc_law : FnScope ["_law_script", "_law_turn", "_law_bag", "_law_unique", "_law_rows_here", "_law_handed", "_law_shown", "_law_store", "_law_plain", "_law_other", "_law_fewer", "_law_lone", "_law_key", "_law_a", "_law_b"] ["_law_script"] (defScope s_law) := ⟨rfl, rfl, rfl, by decide +kernel, rfl, by decide +kernel, by decide +kernel⟩
theorem ok_law {P : Program} {w : World} {K : PySem.W.Frag} {mg : Str → Option Value} {base : Heap} (Xf : FX P K mg) (Df : DX K) {fd : FuncData} (F : FunD K "law" "law" (defArgs s_law) (defBody s_law) (defScope s_law) (DZ.dvs K z0_law) (DZ.kws K z0_law) (He.ga K "law") fd) :
    Z.FnOk P w K mg base (L2.CX P w) 6 (He.ga K "law") fd ["_law_script"] (spZ K 1 B_law) := by
  have S := sc_law
  exact body_ok F S fun cdv A outer s H E hr => (sss_cons (ss_for (passes_of rfl) rfl (si_range1 rfl Xf.f_range (sa_cons (se_max2 rfl rfl Xf.f_max (sa_cons se_int (sa_cons (se_min2 rfl rfl Xf.f_min (sa_cons se_int (sa_cons (se_len rfl Xf.f_len (sa_cons (se_var (i := 0) rfl (.inl rfl)) sa_nil)) sa_nil))) sa_nil))) sa_nil)) (sg_name (i := 1) S.nd rfl (.inl rfl))
  (sss_cons (ss_set (i := 2) S.nd rfl (.inl rfl) (se_call (h_law_start_2_runs Xf Df (hr.mono (by decide : 1 ≤ 5))) (kp_law_start Df) Xf.g__law_start rfl (sa_cons (se_var (i := 0) rfl (.inl rfl)) (sa_cons (se_var (i := 1) rfl (.inl rfl)) sa_nil))))
  (sss_cons (ss_set (i := 3) S.nd rfl (.inl rfl) (se_call (c_law_pick_2_runs Xf Df (hr.mono (by decide : 2 ≤ 5))) (kp_law_pick Df) Xf.g__law_pick rfl (sa_cons (se_var (i := 2) rfl (.inl rfl)) (sa_cons (se_frz (sl_lst (sa_cons se_str (sa_cons se_str (sa_cons se_str (sa_cons se_str sa_nil)))))) sa_nil))))
  (sss_cons (ss_set (i := 4) S.nd rfl (.inl rfl) (se_call (c_law_rows_3_runs Xf Df (hr.mono (by decide : 3 ≤ 5))) (kp_law_rows Df) Xf.g__law_rows rfl (sa_cons (se_var (i := 2) rfl (.inl rfl)) (sa_cons (se_call (c_law_pick_2_runs Xf Df (hr.mono (by decide : 2 ≤ 5))) (kp_law_pick Df) Xf.g__law_pick rfl (sa_cons (se_var (i := 2) rfl (.inl rfl)) (sa_cons (se_frz (sl_lst (sa_cons se_int (sa_cons se_int (sa_cons se_int (sa_cons se_int sa_nil)))))) sa_nil))) (sa_cons (se_var (i := 3) rfl (.inl rfl)) sa_nil)))))
  (sss_cons (ss_set (i := 5) S.nd rfl (.inl rfl) (se_call (c_law_turned_2_runs Xf Df (hr.mono (by decide : 2 ≤ 5))) (kp_law_turned Df) Xf.g__law_turned rfl (sa_cons (se_var (i := 2) rfl (.inl rfl)) (sa_cons (se_var (i := 4) rfl (.inl rfl)) sa_nil))))
  (sss_cons (ss_set (i := 6) S.nd rfl (.inl rfl) (se_repr (hr.mono (Nat.zero_le _)) rfl Xf.f_repr (sa_cons (se_var (i := 5) rfl (.inl rfl)) sa_nil)))
  (sss_cons (ss_set (i := 7) S.nd rfl (.inl rfl) (se_smethK (ks := ["unique"]) (se_glo rfl Xf.g_Store) Xf.sm_Store_of (z_Store_of_1_unique Xf Df) (hr.mono (by decide : 5 ≤ 5)) (sa_cons (se_var (i := 5) rfl (.inl rfl)) sa_nil) (sk_cons (se_var (i := 3) rfl (.inl rfl)) sk_nil)))
  (sss_cons (ss_if (st_w (sw_or (st_ne (u64 hr) (se_repr (hr.mono (Nat.zero_le _)) rfl Xf.f_repr (sa_cons (se_var (i := 5) rfl (.inl rfl)) sa_nil)) (se_var (i := 6) rfl (.inl rfl))) (sw_or1 (st_not (st_tru (se_call (c_law_is_store_3_runs Xf Df (hr.mono (by decide : 5 ≤ 5))) (kp_law_is_store Df) Xf.g__law_is_store rfl (sa_cons (se_var (i := 7) rfl (.inl rfl)) (sa_cons (se_var (i := 4) rfl (.inl rfl)) (sa_cons (se_var (i := 3) rfl (.inl rfl)) sa_nil)))))))))
  (sss_one (ss_ret se_bl))
  sss_nil)
  (sss_cons (ss_expr (se_append (se_var (i := 5) rfl (.inl rfl)) (sa_cons (se_tup (sa_cons se_int (sa_cons se_int (sa_cons se_int sa_nil)))) sa_nil)))
  (sss_cons (ss_expr (se_reverse (se_var (i := 5) rfl (.inl rfl))))
  (sss_cons (ss_if (st_not (st_tru (se_call (c_law_is_store_3_runs Xf Df (hr.mono (by decide : 5 ≤ 5))) (kp_law_is_store Df) Xf.g__law_is_store rfl (sa_cons (se_var (i := 7) rfl (.inl rfl)) (sa_cons (se_var (i := 4) rfl (.inl rfl)) (sa_cons (se_var (i := 3) rfl (.inl rfl)) sa_nil))))))
  (sss_one (ss_ret se_bl))
  sss_nil)
  (sss_cons (ss_set (i := 8) S.nd rfl (.inl rfl) (se_smeth (se_glo rfl Xf.g_Store) Xf.sm_Store_of (z_Store_of_1 Xf Df) (hr.mono (by decide : 5 ≤ 5)) (sa_cons (se_tuple rfl Xf.f_tuple (sa_cons (se_call (c_law_turned_2_runs Xf Df (hr.mono (by decide : 2 ≤ 5))) (kp_law_turned Df) Xf.g__law_turned rfl (sa_cons (se_var (i := 2) rfl (.inl rfl)) (sa_cons (se_var (i := 4) rfl (.inl rfl)) sa_nil))) sa_nil)) sa_nil)))
  (sss_cons (ss_if (st_w (sw_or (st_not (st_tru (se_call (c_law_is_store_3_runs Xf Df (hr.mono (by decide : 5 ≤ 5))) (kp_law_is_store Df) Xf.g__law_is_store rfl (sa_cons (se_var (i := 8) rfl (.inl rfl)) (sa_cons (se_var (i := 4) rfl (.inl rfl)) (sa_cons se_str sa_nil)))))) (sw_or1 (st_ne (u64 hr) (se_eqO Xf.ins Xf.o_Store___eq__ (z_Store_eq_2 Xf Df) (hr.mono (by decide : 1 ≤ 5)) (se_var (i := 7) rfl (.inl rfl)) (se_var (i := 8) rfl (.inl rfl))) (se_eq (u64 hr) (se_var (i := 3) rfl (.inl rfl)) se_str)))))
  (sss_one (ss_ret se_bl))
  sss_nil)
  (sss_cons (ss_if (st_not (st_cmpE (se_eqO Xf.ins Xf.o_Store___eq__ (z_Store_eq_2 Xf Df) (hr.mono (by decide : 1 ≤ 5)) (se_var (i := 7) rfl (.inl rfl)) (se_smethK (ks := ["unique"]) (se_glo rfl Xf.g_Store) Xf.sm_Store_of (z_Store_of_1_unique Xf Df) (hr.mono (by decide : 5 ≤ 5)) (sa_cons (se_call (c_law_turned_2_runs Xf Df (hr.mono (by decide : 2 ≤ 5))) (kp_law_turned Df) Xf.g__law_turned rfl (sa_cons (se_var (i := 2) rfl (.inl rfl)) (sa_cons (se_var (i := 4) rfl (.inl rfl)) sa_nil))) sa_nil) (sk_cons (se_var (i := 3) rfl (.inl rfl)) sk_nil)))))
  (sss_one (ss_ret se_bl))
  sss_nil)
  (sss_cons (ss_if (st_ne (u64 hr) (se_var (i := 4) rfl (.inl rfl)) (se_frz (sl_lst sa_nil)))
  (sss_cons (ss_par (i := 10) (j := 11) rfl S.nd rfl rfl (by decide) rfl rfl (sa_cons (se_smethK (ks := ["unique"]) (se_glo rfl Xf.g_Store) Xf.sm_Store_of (z_Store_of_1_unique Xf Df) (hr.mono (by decide : 5 ≤ 5)) (sa_cons (se_slice (se_var (i := 4) rfl (.inl rfl)) (so_some se_int) so_none) sa_nil) (sk_cons (se_var (i := 3) rfl (.inl rfl)) sk_nil)) (sa_cons (se_callK (n_Store_init_S1_unique_runs Xf Df (hr.mono (by decide : 4 ≤ 5)) 1 (by decide) (by decide +kernel)) (Xf.n_Store).kp Xf.g_Store rfl (sa_cons (se_ix (se_var (i := 4) rfl (.inl rfl)) se_int) sa_nil) (sk_cons (se_var (i := 3) rfl (.inl rfl)) sk_nil)) sa_nil)) (by rfl))
  (sss_cons (ss_if (st_w (sw_or (st_cmpE (se_eqO Xf.ins Xf.o_Store___eq__ (z_Store_eq_2 Xf Df) (hr.mono (by decide : 1 ≤ 5)) (se_var (i := 7) rfl (.inl rfl)) (se_var (i := 10) rfl (.inl rfl)))) (sw_or (st_cmpE (se_eqO Xf.ins Xf.o_Store___eq__ (z_Store_eq_2 Xf Df) (hr.mono (by decide : 1 ≤ 5)) (se_var (i := 10) rfl (.inl rfl)) (se_var (i := 7) rfl (.inl rfl)))) (sw_or1 (st_not (st_tru (se_call (c_law_is_store_3_runs Xf Df (hr.mono (by decide : 5 ≤ 5))) (kp_law_is_store Df) Xf.g__law_is_store rfl (sa_cons (se_var (i := 11) rfl (.inl rfl)) (sa_cons (se_slice (se_var (i := 4) rfl (.inl rfl)) so_none (so_some se_int)) (sa_cons (se_var (i := 3) rfl (.inl rfl)) sa_nil))))))))))
  (sss_one (ss_ret se_bl))
  sss_nil)
  (sss_cons (ss_asg (se_ix (se_var (i := 4) rfl (.inl rfl)) se_int) (sg_tup rfl (sgs_cons (sg_name (i := 12) S.nd rfl (.inl rfl)) (sgs_cons (sg_name (i := 13) S.nd rfl (.inl rfl)) (sgs_cons (sg_name (i := 14) S.nd rfl (.inl rfl)) sgs_nil))) (gsl_cons (gsl_cons (gsl_cons gsl_nil)))))
  (sss_cons (ss_set (i := 9) S.nd rfl (.inl rfl) (se_add (se_frz (sl_lst (sa_cons (se_tup (sa_cons (se_var (i := 12) rfl (.inl rfl)) (sa_cons (se_var (i := 13) rfl (.inl rfl)) (sa_cons (se_mod (se_int1 rfl Xf.f_int (sa_cons (se_add (se_var (i := 14) rfl (.inl rfl)) se_int) sa_nil)) se_int) sa_nil)))) sa_nil))) (se_slice (se_var (i := 4) rfl (.inl rfl)) (so_some se_int) so_none)))
  (sss_one (ss_if (st_w (sw_or (st_cmpE (se_eqO Xf.ins Xf.o_Store___eq__ (z_Store_eq_2 Xf Df) (hr.mono (by decide : 1 ≤ 5)) (se_smeth (se_glo rfl Xf.g_Store) Xf.sm_Store_of (z_Store_of_1 Xf Df) (hr.mono (by decide : 5 ≤ 5)) (sa_cons (se_var (i := 9) rfl (.inl rfl)) sa_nil)) (se_var (i := 8) rfl (.inl rfl)))) (sw_or1 (st_cmpE (se_eqO Xf.ins Xf.o_Store___eq__ (z_Store_eq_2 Xf Df) (hr.mono (by decide : 1 ≤ 5)) (se_var (i := 8) rfl (.inl rfl)) (se_smeth (se_glo rfl Xf.g_Store) Xf.sm_Store_of (z_Store_of_1 Xf Df) (hr.mono (by decide : 5 ≤ 5)) (sa_cons (se_var (i := 9) rfl (.inl rfl)) sa_nil)))))))
  (sss_one (ss_ret se_bl))
  sss_nil))))))
  sss_nil)
  (sss_one (ss_if (st_w (sw_and (st_gt (se_len rfl Xf.f_len (sa_cons (se_var (i := 4) rfl (.inl rfl)) sa_nil)) se_int) (sw_and1 (st_not (st_tru (se_call (c_law_is_store_3_runs Xf Df (hr.mono (by decide : 5 ≤ 5))) (kp_law_is_store Df) Xf.g__law_is_store rfl (sa_cons (se_callK (n_Store_init_S1_unique_runs Xf Df (hr.mono (by decide : 4 ≤ 5)) 3 (by decide) (by decide +kernel)) (Xf.n_Store).kp Xf.g_Store rfl (sa_cons (se_ix (se_var (i := 4) rfl (.inl rfl)) se_int) (sa_cons (se_ix (se_var (i := 4) rfl (.inl rfl)) se_int) (sa_cons (se_ix (se_var (i := 4) rfl (.inl rfl)) se_int) sa_nil))) (sk_cons (se_var (i := 3) rfl (.inl rfl)) sk_nil)) (sa_cons (se_slice (se_var (i := 4) rfl (.inl rfl)) so_none (so_some se_int)) (sa_cons (se_var (i := 3) rfl (.inl rfl)) sa_nil)))))))))
  (sss_one (ss_ret se_bl))
  sss_nil)))))))))))))))))
  (sss_one (ss_ret (se_and (se_call (c_law_is_store_3_runs Xf Df (hr.mono (by decide : 5 ≤ 5))) (kp_law_is_store Df) Xf.g__law_is_store rfl (sa_cons (se_call0 (n_Store_init_S1_runs Xf Df (hr.mono (by decide : 4 ≤ 5)) 0 (by decide) (by decide +kernel)) (Xf.n_Store).kp Xf.g_Store rfl) (sa_cons (se_frz (sl_lst sa_nil)) (sa_cons se_str sa_nil)))) (se_and (se_call (c_law_is_store_3_runs Xf Df (hr.mono (by decide : 5 ≤ 5))) (kp_law_is_store Df) Xf.g__law_is_store rfl (sa_cons (se_callK0 (n_Store_init_S1_unique_runs Xf Df (hr.mono (by decide : 4 ≤ 5)) 0 (by decide) (by decide +kernel)) (Xf.n_Store).kp Xf.g_Store rfl (sk_cons se_str sk_nil)) (sa_cons (se_frz (sl_lst sa_nil)) (sa_cons se_str sa_nil)))) (se_one (se_eqO Xf.ins Xf.o_Store___eq__ (z_Store_eq_2 Xf Df) (hr.mono (by decide : 1 ≤ 5)) (se_call0 (n_Store_init_S1_runs Xf Df (hr.mono (by decide : 4 ≤ 5)) 0 (by decide) (by decide +kernel)) (Xf.n_Store).kp Xf.g_Store rfl) (se_smeth (se_glo rfl Xf.g_Store) Xf.sm_Store_of (z_Store_of_1 Xf Df) (hr.mono (by decide : 5 ≤ 5)) (sa_cons (se_frz (sl_lst sa_nil)) sa_nil)))))))))
abbrev G_law : FD := B_law
section
section
theorem toDs_ints : ∀ l : List Int, toDs (l.map .int) = some (l.map .int)
  | [] => rfl
  | x :: l => by
    show (match some (PyData.int x) with
      | some d => (match toDs (l.map .int) with
        | some ds => some (d :: ds)
        | none => none)
      | none => none) = _
    rw [toDs_ints l]
    rfl
theorem lay_ints : ∀ l : List Int, PyData.canLayAll0 (l.map .int) = true
  | [] => rfl
  | x :: l => by
    show (PyData.canLay0 (.int x) && PyData.canLayAll0 (l.map .int)) = true
    rw [lay_ints l]
    rfl
theorem dep_ints : ∀ l : List Int, PyData.depthAll (l.map .int) = 0
  | [] => rfl
  | x :: l => by
    show max (PyData.depth (.int x)) (PyData.depthAll (l.map .int)) = 0
    rw [dep_ints l]
    rfl
theorem shaped_ints (l : List Int) : SeqAt.shaped (.list (l.map .int)) = true := by
  unfold SeqAt.shaped
  rw [show PyData.canLay0 (.list (l.map .int)) = PyData.canLayAll0 (l.map .int) from rfl, lay_ints, show PyData.depth (.list (l.map .int)) = PyData.depthAll (l.map .int) + 1 from rfl, dep_ints]
  rfl
theorem eqF_nil {l : List Int} {m : Mem} : eqF (.lst (l.map .int)) (.lst []) m = some (.bl l.isEmpty, m) := by
  rw [eqF_obj (.inl rfl)]
  unfold eqW datF
  have e1 : toDm m (.lst (l.map .int)) = some (.list (l.map .int)) := by
    show (match toDs (l.map .int) with
      | some ds => some (PyData.list ds)
      | none => none) = _
    rw [toDs_ints]
  have e2 : toDm m (.lst []) = some (.list []) := rfl
  rw [e1, e2]
  simp only [shaped_ints, show SeqAt.shaped (.list []) = true from rfl, Bool.and_self, if_true]
  cases l <;> rfl
theorem draw_ok {m : Mem} {n : Nat} {c b k : Int} {nums : List Int} {many : Int} (h : m[n]? = some (.lst [.int c, .int b, .int k, .lst (nums.map .int)])) (h1 : 0 < many) (h2 : many < 1073741824) :
   ∃ d c' b' k', 0 ≤ d ∧ d < many ∧ B_law_draw [.obj n, .int many] m = some (.ok (.int d), m.set n (.lst [.int c', .int b', .int k', .lst (nums.map .int)])) := by
  have hn := getlt h
  have i0 : ∀ {z : Int} {c b k : Vl}, L2.atI [.int z, c, b, k] 0 = some (.int z) := rfl
  have i1 : ∀ {z c b k : Vl}, L2.atI [z, c, b, k] 1 = some c := rfl
  have i2 : ∀ {z c b k : Vl}, L2.atI [z, c, b, k] 2 = some b := rfl
  have i3 : ∀ {z c b k : Vl}, L2.atI [z, c, b, k] 3 = some k := rfl
  by_cases hc : 0 < c
  · refine ⟨c % many, c / many, b, k, Int.emod_nonneg _ (by omega), Int.emod_lt_of_pos _ h1, ?_⟩
    simp [B_law_draw, bodyD, startZ, D_law_draw, ixA_obj h i0, hc, modI_int h1, divI_int h1 h2]
    rw [gSetI_ap (n := n) (q := 0) (j := 0) rfl rfl h rfl]
    simp
  · by_cases hz : nums = []
    · subst hz
      refine ⟨0, c, b, k, Int.le_refl _, h1, ?_⟩
      have e := eqF_nil (l := []) (m := m)
      simp only [List.map_nil] at e
      simp [B_law_draw, bodyD, startZ, D_law_draw, ixA_obj h i0, ixA_obj h i3, hc, e]
      exact (set_same (by simpa using h)).symm
    · have hl : 0 < (nums.length : Int) := by
        have := List.length_pos_iff.mpr hz
        omega
      have hg : ∃ z, nums[((k + 1) % (nums.length : Int)).toNat]? = some z := by
        refine ⟨_, List.getElem?_eq_getElem ?_⟩
        have := Int.emod_lt_of_pos (k + 1) hl
        have := Int.emod_nonneg (k + 1) (b := (nums.length : Int)) (by omega)
        omega
      obtain ⟨z, hz2⟩ := hg
      have hnn := Int.emod_nonneg (k + 1) (b := (nums.length : Int)) (by omega)
      have ha : L2.atI (nums.map Vl.int) ((k + 1) % (nums.length : Int)) = some (.int z) := atI_of hnn (by rw [List.getElem?_map, hz2]; rfl)
      refine ⟨((((b * 48271 + z % 1000003) + 30011 * (k + 1)) % 2147483629 * 39373) % 2147483647 / 128) % many, c, ((b * 48271 + z % 1000003) + 30011 * (k + 1)) % 2147483629, k + 1, Int.emod_nonneg _ (by omega), Int.emod_lt_of_pos _ h1, ?_⟩
      have hs := get_set (y := Cell.lst [.int c, .int b, .int (k + 1), .lst (nums.map .int)]) h
      have g1 : ∀ (env : Ev), gSetI (dVar 0) (dC (.int 2)) (.int (k + 1)) (some (.obj n) :: env) m = some (some (.obj n) :: env, m.set n (.lst [.int c, .int b, .int (k + 1), .lst (nums.map .int)])) := fun env => gSetI_ap (n := n) (q := 2) (j := 2) rfl rfl h rfl
      have g2 : ∀ (env : Ev) (v : Vl), gSetI (dVar 0) (dC (.int 1)) v (some (.obj n) :: env) (m.set n (.lst [.int c, .int b, .int (k + 1), .lst (nums.map .int)])) = some (some (.obj n) :: env, m.set n (.lst [.int c, v, .int (k + 1), .lst (nums.map .int)])) := fun env v => by
        rw [gSetI_ap (n := n) (q := 1) (j := 1) rfl rfl hs rfl]
        simp
      have hs2 : ∀ v, (m.set n (Cell.lst [.int c, v, .int (k + 1), .lst (nums.map .int)]))[n]? = some (.lst [.int c, v, .int (k + 1), .lst (nums.map .int)]) := fun v => get_set h
      simp [B_law_draw, bodyD, startZ, D_law_draw, ixA_obj h i0, ixA_obj h i2, ixA_obj h i3, hc, eqF_nil, hz, g1, ixA_obj hs i2, ixA_obj hs i3, ixA_obj hs i1, lenF_lst, modI_int hl, ixA_lst ha, mulA_int (mulC_r (n := 48271) (by decide) (by decide)), mulA_int (mulC_l (k := 30011) (by decide) (by decide)), mulA_int (mulC_r (n := 39373) (by decide) (by decide)), modI_int (n := 1000003) (by decide), modI_int (n := 2147483629) (by decide), modI_int (n := 2147483647) (by decide), divI_int (n := 128) (by decide) (by decide), modI_int h1, g2, ixA_obj (hs2 _) i1]
theorem start_B (ns : List Int) (hns : ns.length ≤ 63) (t : Int) (ht : 0 ≤ t) : wpO (B_law_start [.frl (ns.map .int), .int t] []) fun r m => r = .ok (.obj 0) ∧ ∃ c b : Int, m = [.lst [.int c, .int b, .int 0, .lst (ns.map .int)]] := by
  have hsl : ∀ m, slD (.frl (ns.map Vl.int)) none (some 63) m = some (.lst (ns.map Vl.int), m) := fun m => by
    show some (Vl.lst (cutZ (ns.map Vl.int) none (some ((63 : Nat) : Int))), m) = _
    rw [cut_all (by simpa using hns)]
  have hlc : ∀ (a b c : Option Vl) (env : Ev) (m : Mem), lcZ (gcVar 3) dYes (dB intFn (dCons (dVar 3) fun _ m => some (.ok [], m))) (a :: b :: c :: none :: env) (ns.map Vl.int) m = some (ns.map Vl.int, m) := fun a b c env m => by
    rw [lcZ_map (f := id) fun x hx => ?_]
    · simp
    · obtain ⟨i, _, rfl⟩ := List.mem_map.mp hx
      exact ⟨_, rfl, by simp⟩
  have hsz : ns.length ≤ sizeLine := Nat.le_trans hns (by decide)
  have hp : powI (.int 10) (.int 18) [] = some (.int (10 ^ 18), []) := rfl
  have ha : t < ns.length → ∃ z : Int, L2.atI (ns.map Vl.int) t = some (.int z) := fun h => by
    have hi : t.toNat < ns.length := by omega
    exact ⟨ns[t.toNat], atI_of ht (by rw [List.getElem?_map, List.getElem?_eq_getElem hi]; rfl)⟩
  refine wp_body ?_
  have key : ∀ (c b0 : Int), wpO
    (thenS (forL (gTupD (gsCons (gVar 6) (gsCons (gVar 3) gsNil)))
            (dAsg 5 (d2 modI (dB intFn (dCons (d2 addA (d2 addA (d2 mulA (dVar 5) (dC (.int 69621))) (d2 modI (dB intFn (dCons (dVar 3) (fun _ m => some (.ok [], m)))) (dC (.int 2147483587)))) (d2 mulA (dC (.int 17)) (dVar 6))) (fun _ m => some (.ok [], m)))) (dC (.int 2147483629)))) (enumZ (ns.map Vl.int))
            [some (.frl (ns.map .int)), some (.int t), some (.lst (ns.map .int)), none, some (.int c), some (.int b0), none] [])
      (dRet (dNew (dLst (dCons (dIf (b2 geI (dVar 4) (d2 powI (dC (.int 10)) (dC (.int 18)))) (dVar 4) (dC (.int 0))) (dCons (dVar 5) (dCons (dC (.int 0)) (dCons (dVar 2) (fun _ m => some (.ok [], m))))))))))
    (fun f m' => match f with
      | .rt v => v = .obj 0 ∧ ∃ c b : Int, m' = [.lst [.int c, .int b, .int 0, .lst (ns.map .int)]]
      | _ => False) := fun c b0 => by
    refine wp_for (P := fun env m => m = [] ∧ ∃ (b : Int) (e3 e6 : Option Vl), env = [some (.frl (ns.map .int)), some (.int t), some (.lst (ns.map .int)), e3, some (.int c), some (.int b), e6]) ⟨rfl, _, _, _, rfl⟩ ?_ ?_
    · rintro x hx env m ⟨rfl, b, e3, e6, rfl⟩
      obtain ⟨i, hi⟩ := List.mem_iff_getElem?.mp hx
      obtain ⟨y, hy, rfl⟩ := enumZ_get hi
      obtain ⟨z, _, rfl⟩ := List.mem_map.mp (List.mem_of_getElem? hy)
      refine ⟨_, _, rfl, ?_⟩
      simp [mulA_int (mulC_r (n := 69621) (by decide) (by decide)), mulA_int (mulC_l (k := 17) (by decide) (by decide)), modI_int (n := 2147483587) (by decide), modI_int (n := 2147483629) (by decide)]
    · rintro env m ⟨rfl, b, e3, e6, rfl⟩
      by_cases h : (10 : Int) ^ 18 ≤ c
      · simp [hp, show (1000000000000000000 : Int) ≤ c from h]
      · simp [hp, show ¬ (1000000000000000000 : Int) ≤ c from h]
  by_cases h : t < ns.length
  · obtain ⟨z, hz⟩ := ha h
    simp [startZ, D_law_start, hsl, hlc, hsz, wipeE, lenF_lst, h, ixA_lst hz, mulA_int (mulC_l (k := 5003) (by decide) (by decide))]
    exact wpO_mono (key _ _) fun f m h => by cases f <;> exact h
  · simp [startZ, D_law_start, hsl, hlc, hsz, wipeE, lenF_lst, h, mulA_int (mulC_l (k := 5003) (by decide) (by decide))]
    exact wpO_mono (key _ _) fun f m h => by cases f <;> exact h
theorem start_ok (ns : List Int) (hns : ns.length ≤ 63) (t : Int) (ht : 0 ≤ t) (m : Mem) : ∃ c b : Int, h_law_start_2 [.frl (ns.map .int), .int t] [] m = some (.ok (.obj m.length), m ++ [.lst [.int c, .int b, .int 0, .lst (ns.map .int)]]) := by
  obtain ⟨r, m1, h1, rfl, c, b, rfl⟩ := wpO_iff.mp (start_B ns hns t ht)
  refine ⟨c, b, fresh_top h1 ?_ rfl ?_⟩
  · show (cloL 0 (ns.map .int) && _) = true
    rw [cloL_ints]
    rfl
  · intro z hz
    rcases List.mem_cons.mp hz with rfl | hz
    · rfl
    rcases List.mem_cons.mp hz with rfl | hz
    · rfl
    rcases List.mem_cons.mp hz with rfl | hz
    · rfl
    rcases List.mem_cons.mp hz with rfl | hz
    · exact cnv_ints ns
    · cases hz
end
section
theorem value_int (i : Int) (m : Mem) : c_is_value_1 [.int i] [] m = some (.ok (.bl (decide (0 ≤ i) && decide (i ≤ 999))), m) := by
  show B_is_value [.int i] m = _
  have h1 : isiF csZ (kitT kitL) [.int i, .ty "int"] m = some (.bl true, m) := rfl
  have h2 : isiF csZ (kitT kitL) [.int i, .ty "bool"] m = some (.bl false, m) := rfl
  by_cases h : 0 ≤ i <;> simp [B_is_value, bodyD, startZ, D_is_value, h1, h2, h]
theorem value_str (s : Str) (m : Mem) : c_is_value_1 [.str s] [] m = some (.ok (.bl false), m) := by
  show B_is_value [.str s] m = _
  have h1 : isiF csZ (kitT kitL) [.str s, .ty "int"] m = some (.bl false, m) := rfl
  simp [B_is_value, bodyD, startZ, D_is_value, h1]
def Bag (ns : List Int) (n : Nat) (m : Mem) : Prop := ∃ c b k : Int, m[n]? = some (.lst [.int c, .int b, .int k, .lst (ns.map .int)])
theorem Bag.set {ns : List Int} {n p : Nat} {m : Mem} (h : Bag ns n m) (hne : p ≠ n) (c : Cell) : Bag ns n (m.set p c) := by
  obtain ⟨x, y, z, h⟩ := h
  exact ⟨x, y, z, by rw [List.getElem?_set_ne hne]; exact h⟩
theorem Bag.app {ns : List Int} {n : Nat} {m : Mem} (h : Bag ns n m) (c : Mem) : Bag ns n (m ++ c) := by
  obtain ⟨x, y, z, h⟩ := h
  exact ⟨x, y, z, by rw [List.getElem?_append_left (getlt h)]; exact h⟩
theorem Bag.lt {ns : List Int} {n : Nat} {m : Mem} (h : Bag ns n m) : n < m.length := by
  obtain ⟨x, y, z, h⟩ := h
  exact getlt h
theorem draw_z {ns : List Int} {n : Nat} {m : Mem} (h : Bag ns n m) {k : Nat} (h1 : 0 < k) (h2 : k < 1000) : ∃ (d : Nat) (m' : Mem), d < k ∧ c_law_draw_2 [.obj n, .int (k : Int)] [] m = some (.ok (.int (d : Int)), m') ∧ Bag ns n m' ∧ m'.length = m.length ∧ ∀ j, j ≠ n → m'[j]? = m[j]? := by
  obtain ⟨c, b, q, h⟩ := h
  obtain ⟨d, c', b', q', h3, h4, h5⟩ := draw_ok h (many := (k : Int)) (by omega) (by omega)
  obtain ⟨d, rfl⟩ := Int.eq_ofNat_of_zero_le h3
  exact ⟨d, _, by omega, h5, ⟨c', b', q', get_set h⟩, by simp, fun j hj => by rw [List.getElem?_set_ne (Ne.symm hj)]⟩
theorem ix_v {L : List Vl} {d : Nat} {v : Vl} (h : L[d]? = some v) (m : Mem) : ixA (.lst L) (.int (d : Int)) m = some (v, m) := ixA_lst (atI_of (by omega) (by rw [Int.toNat_natCast]; exact h))
theorem pick_v {ns : List Int} {n : Nat} {m : Mem} (h : Bag ns n m) (L : List Vl) (h1 : 0 < L.length) (h2 : L.length < 1000) : ∃ (v : Vl) (m' : Mem), v ∈ L ∧ c_law_pick_2 [.obj n, .lst L] [] m = some (.ok v, m') ∧ Bag ns n m' ∧ m'.length = m.length ∧ ∀ j, j ≠ n → m'[j]? = m[j]? := by
  obtain ⟨d, m1, a, b, hb, hl, k⟩ := draw_z h h1 h2
  refine ⟨L[d], m1, List.getElem_mem a, ?_, hb, hl, k⟩
  show B_law_pick [.obj n, .lst L] m = _
  have ix := ix_v (List.getElem?_eq_getElem a) m1
  simp [B_law_pick, bodyD, startZ, D_law_pick, lenF_lst, b, ix]
theorem draw_w {ns : List Int} {n : Nat} {m : Mem} (h : Bag ns n m) : ∃ (d : Nat) (m' : Mem), d < 1000 ∧ c_law_draw_2 [.obj n, .int 1000] [] m = some (.ok (.int (d : Int)), m') ∧ Bag ns n m' ∧ m'.length = m.length ∧ ∀ j, j ≠ n → m'[j]? = m[j]? := by
  obtain ⟨c, b, q, h⟩ := h
  obtain ⟨d, c', b', q', h3, h4, h5⟩ := draw_ok h (many := 1000) (by omega) (by omega)
  obtain ⟨d, rfl⟩ := Int.eq_ofNat_of_zero_le h3
  exact ⟨d, _, by omega, h5, ⟨c', b', q', get_set h⟩, by simp, fun j hj => by rw [List.getElem?_set_ne (Ne.symm hj)]⟩
theorem cell_ok {ns : List Int} {n : Nat} {m : Mem} (h : Bag ns n m) : ∃ (i : Int) (m' : Mem), 0 ≤ i ∧ i ≤ 999 ∧ c_law_cell_1 [.obj n] [] m = some (.ok (.int i), m') ∧ Bag ns n m' ∧ m'.length = m.length ∧ ∀ j, j ≠ n → m'[j]? = m[j]? := by
  obtain ⟨d, m1, a0, b0, h1, l1, k1⟩ := draw_z h (k := 6) (by decide) (by decide)
  have c0 : c_law_draw_2 [.obj n, .int 6] [] m = some (.ok (.int (d : Int)), m1) := b0
  by_cases hd : d < 4
  · have hx : ∃ i : Int, 0 ≤ i ∧ i ≤ 999 ∧ ([.int 0, .int 1, .int 2, .int 999] : List Vl)[d]? = some (.int i) := by
      rcases (by omega : d = 0 ∨ d = 1 ∨ d = 2 ∨ d = 3) with rfl | rfl | rfl | rfl
      · exact ⟨0, by decide, by decide, rfl⟩
      · exact ⟨1, by decide, by decide, rfl⟩
      · exact ⟨2, by decide, by decide, rfl⟩
      · exact ⟨999, by decide, by decide, rfl⟩
    obtain ⟨i, i0, i1, hi⟩ := hx
    refine ⟨i, m1, i0, i1, ?_, h1, l1, k1⟩
    have ix := ix_v hi m1
    have hd' : ((d : Int) < 4) := by omega
    show B_law_cell [.obj n] m = _
    simp [B_law_cell, bodyD, startZ, D_law_cell, c0, hd', ix]
  · obtain ⟨i, m2, a1, b1, h2, l2, k2⟩ := draw_w h1
    refine ⟨(i : Int), m2, by omega, by omega, ?_, h2, l2.trans l1, fun j hj => (k2 j hj).trans (k1 j hj)⟩
    have hd' : ¬ ((d : Int) < 4) := by omega
    show B_law_cell [.obj n] m = _
    simp [B_law_cell, bodyD, startZ, D_law_cell, c0, hd', b1]
theorem rng_t (z : Int) (h0 : 0 ≤ z) (h : z < 100) : rng1 [.int z] = some (intsZ 0 z.toNat) := by
  have h1 : -(2 ^ 62) ≤ z := by omega
  have h2 : z < 2 ^ 62 := by omega
  unfold rng1
  simp only [h1, h2, decide_true, Bool.and_self, if_true]
theorem ints_len (a : Int) (n : Nat) : (intsZ a n).length = n := by
  unfold intsZ
  simp
structure Fr (ns : List Int) (n : Nat) (m m' : Mem) : Prop where
  bag : Bag ns n m'
  le : m.length ≤ m'.length
  keep : ∀ j, j ≠ n → j < m.length → m'[j]? = m[j]?
theorem Fr.trans {ns : List Int} {n : Nat} {m m1 m2 : Mem} (a : Fr ns n m m1) (b : Fr ns n m1 m2) : Fr ns n m m2 :=
  ⟨b.bag, Nat.le_trans a.le b.le, fun j hj hl => (b.keep j hj (Nat.lt_of_lt_of_le hl a.le)).trans (a.keep j hj hl)⟩
theorem Fr.at {ns : List Int} {n : Nat} {m m1 : Mem} (a : Fr ns n m m1) {p : Nat} {c : Cell} (hp : m[p]? = some c) (hne : p ≠ n) : m1[p]? = some c := (a.keep p hne (getlt hp)).trans hp
theorem Fr.mk' {ns : List Int} {n : Nat} {m m' : Mem} (h : Bag ns n m') (l : m'.length = m.length) (k : ∀ j, j ≠ n → m'[j]? = m[j]?) : Fr ns n m m' := ⟨h, Nat.le_of_eq l.symm, fun j hj _ => k j hj⟩
theorem Fr.refl {ns : List Int} {n : Nat} {m : Mem} (h : Bag ns n m) : Fr ns n m m := ⟨h, Nat.le_refl _, fun _ _ _ => rfl⟩
section
variable {ns : List Int} {n : Nat} {m : Mem}
theorem draw_i (h : Bag ns n m) (k : Int) (h1 : 0 < k) (h2 : k ≤ 1000) : ∃ (z : Int) (m' : Mem), 0 ≤ z ∧ z < k ∧ c_law_draw_2 [.obj n, .int k] [] m = some (.ok (.int z), m') ∧ Fr ns n m m' := by
  obtain ⟨c, b, q, h⟩ := h
  obtain ⟨d, c', b', q', h3, h4, h5⟩ := draw_ok h (many := k) h1 (by omega)
  exact ⟨d, _, h3, h4, h5, Fr.mk' ⟨c', b', q', get_set h⟩ (by simp) fun j hj => by rw [List.getElem?_set_ne (Ne.symm hj)]⟩
theorem pick_i (h : Bag ns n m) (L : List Vl) (h1 : 0 < L.length) (h2 : L.length < 1000) : ∃ (v : Vl) (m' : Mem), v ∈ L ∧ c_law_pick_2 [.obj n, .lst L] [] m = some (.ok v, m') ∧ Fr ns n m m' := by
  obtain ⟨v, m', a, b, c, d, e⟩ := pick_v h L h1 h2
  exact ⟨v, m', a, b, Fr.mk' c d e⟩
theorem cell_i (h : Bag ns n m) : ∃ (i : Int) (m' : Mem), 0 ≤ i ∧ i ≤ 999 ∧ c_law_cell_1 [.obj n] [] m = some (.ok (.int i), m') ∧ Fr ns n m m' := by
  obtain ⟨v, m', a, b, c, d, e, f⟩ := cell_ok h
  exact ⟨v, m', a, b, c, Fr.mk' d e f⟩
theorem Fr.set {m1 : Mem} {p : Nat} (a : Fr ns n m m1) (hp : p ≠ n) (hl : m.length ≤ p) (c : Cell) : Fr ns n m (m1.set p c) :=
  ⟨a.bag.set hp c, by rw [List.length_set]; exact a.le, fun j hj h => by rw [List.getElem?_set_ne (by omega)]; exact a.keep j hj h⟩
structure Fp (ns : List Int) (n p : Nat) (m m' : Mem) : Prop where
  bag : Bag ns n m'
  le : m.length ≤ m'.length
  keep : ∀ j, j ≠ n → j ≠ p → j < m.length → m'[j]? = m[j]?
theorem Fp.trans {p : Nat} {m m1 m2 : Mem} (a : Fp ns n p m m1) (b : Fp ns n p m1 m2) : Fp ns n p m m2 :=
  ⟨b.bag, Nat.le_trans a.le b.le, fun j hj hp hl => (b.keep j hj hp (Nat.lt_of_lt_of_le hl a.le)).trans (a.keep j hj hp hl)⟩
theorem Fr.p {m m1 : Mem} (a : Fr ns n m m1) (p : Nat) : Fp ns n p m m1 := ⟨a.bag, a.le, fun j hj _ hl => a.keep j hj hl⟩
theorem Fp.set {p : Nat} {m m1 : Mem} (a : Fp ns n p m m1) (hne : p ≠ n) (c : Cell) : Fp ns n p m (m1.set p c) :=
  ⟨a.bag.set hne c, by rw [List.length_set]; exact a.le, fun j hj hp hl => by rw [List.getElem?_set_ne (Ne.symm hp)]; exact a.keep j hj hp hl⟩
end
theorem erase_map {α β : Type} (g : α → β) : ∀ (W : List α) (a : Nat), (W.map g).eraseIdx a = (W.eraseIdx a).map g
  | [], _ => rfl
  | x :: W, 0 => rfl
  | x :: W, a + 1 => by
    show g x :: (W.map g).eraseIdx a = _
    rw [erase_map g W a]
    rfl
theorem seq_i (a : Int) (l : Nat) (h0 : 0 ≤ a) (h : a < (l : Int)) : seqIndex? a l = some a.toNat := by
  unfold seqIndex?
  have h3 : ¬ (a < 0) := by omega
  simp [h3, h0, h]
theorem pop_i (L : List Vl) (a : Int) (h0 : 0 ≤ a) (h : a < (L.length : Int)) (hL : L.length < 1000) {y : Vl} (hy : L[a.toNat]? = some y) : popH L [.int a] = some (y, L.eraseIdx a.toNat) := by
  have c : (decide (-(2 ^ 63) ≤ a) && decide (a < 2 ^ 63)) = true := by
    simp only [Bool.and_eq_true, decide_eq_true_eq]
    omega
  unfold popH
  simp only [c, if_true, seq_i a L.length h0 h, hy]
theorem lstM_z {h : List Vl → List Vl → Option (Vl × List Vl)} {p : Nat} {m : Mem} {ys xs zs : List Vl} {z : Vl} (hp : m[p]? = some (.lst ys)) (e : h ys xs = some (z, zs)) : lstM h (.obj p) xs m = some (z, m.set p (.lst zs)) := by
  unfold lstM
  simp only [hp, e]
theorem app_i (L : List Vl) (y : Vl) (h : L.length < 1000) : appH L [y] = some (.non, L ++ [y]) := by
  show (if L.length < sizeLine then some (Vl.non, L ++ [y]) else none) = _
  rw [if_pos (Nat.lt_of_lt_of_le h (by decide))]
theorem rng_i (z : Int) (h : z < 100) (h0 : 0 ≤ z) : rng1 [.int z] = some (intsZ 0 z.toNat) := rng_t z h0 h
theorem le_sz {n : Nat} (h : n ≤ 100000) : n ≤ sizeLine := Nat.le_trans h (by decide)
structure Sm (d : PyData) (k n : Nat) : Prop where
  lay : PyData.canLay0 d = true
  dep : PyData.depth d ≤ k
  sho : PyData.showable d = true
  hd : PyData.hasDict d = false
  len : shB d ≤ n
theorem sm_str {s : Str} {n : Nat} (h : ∀ c ∈ s.cps.toList, c < 1114112) (hl : s.length ≤ n) : Sm (.str s) 0 (10 * n + 2) := by
  have hc : ∀ c ∈ s.cps.toList, c < 0x110000 := h
  refine ⟨?_, Nat.le_refl _, rfl, rfl, ?_⟩
  · show (s.cps.all fun c => decide (c < 0x110000)) = true
    rw [← Array.all_toList]
    exact List.all_eq_true.mpr fun c hm => decide_eq_true (hc c hm)
  · show (PyData.shown (.str s)).length ≤ _
    rw [PyData.shown_str]
    have := StrLaws.reprText_len s (fun c hm => Nat.lt_trans (hc c hm) (by decide))
    omega
theorem sm_two {a b : PyData} {k n m : Nat} (h : Sm a k n) (g : Sm b k m) : Sm (.tuple [a, b]) (k + 1) (n + m + 8) := by
  refine ⟨?_, ?_, ?_, ?_, ?_⟩
  · show (PyData.canLay0 a && (PyData.canLay0 b && true)) = true
    rw [h.lay, g.lay]
    rfl
  · show max (PyData.depth a) (max (PyData.depth b) 0) + 1 ≤ _
    have := h.dep
    have := g.dep
    omega
  · show (PyData.showable a && (PyData.showable b && true)) = true
    rw [h.sho, g.sho]
    rfl
  · show (PyData.hasDict a || (PyData.hasDict b || false)) = false
    rw [h.hd, g.hd]
    rfl
  · show shB a + 2 + (shB b + 2 + 0) + 4 ≤ _
    have := h.len
    have := g.len
    omega
theorem sm_three {a b c : PyData} {k n m l : Nat} (h : Sm a k n) (g : Sm b k m) (f : Sm c k l) : Sm (.tuple [a, b, c]) (k + 1) (n + m + l + 10) := by
  refine ⟨?_, ?_, ?_, ?_, ?_⟩
  · show (PyData.canLay0 a && (PyData.canLay0 b && (PyData.canLay0 c && true))) = true
    rw [h.lay, g.lay, f.lay]
    rfl
  · show max (PyData.depth a) (max (PyData.depth b) (max (PyData.depth c) 0)) + 1 ≤ _
    have := h.dep
    have := g.dep
    have := f.dep
    omega
  · show (PyData.showable a && (PyData.showable b && (PyData.showable c && true))) = true
    rw [h.sho, g.sho, f.sho]
    rfl
  · show (PyData.hasDict a || (PyData.hasDict b || (PyData.hasDict c || false))) = false
    rw [h.hd, g.hd, f.hd]
    rfl
  · show shB a + 2 + (shB b + 2 + (shB c + 2 + 0)) + 4 ≤ _
    have := h.len
    have := g.len
    have := f.len
    omega
theorem repr_sm {x : Vl} {d : PyData} {m : Mem} {k n : Nat} (e : toDm m x = some d) (s : Sm d k n) (hk : k ≤ 60) (hn : n ≤ 100000) : reprF [x] m = some (.str d.shown, m) := by
  have h1 := s.dep
  have h2 := s.len
  unfold reprF
  simp only [e]
  rw [if_pos]
  rw [s.sho, s.hd, decide_eq_true (show d.depth ≤ 60 by omega), decide_eq_true (le_sz (show shB d ≤ 100000 by omega))]
  rfl
theorem eq_sm {x y : Vl} {d e : PyData} {m : Mem} {k n k' n' : Nat} (h : flatL x = none ∨ flatL y = none) (h1 : toDm m x = some d) (h2 : toDm m y = some e) (s : Sm d k n) (t : Sm e k' n') (hk : k ≤ 60) (hk' : k' ≤ 60) : eqF x y m = some (.bl (PyData.eqv d e), m) ∧ neF x y m = some (.bl (!PyData.eqv d e), m) := by
  have a1 := s.dep
  have a2 := t.dep
  have s1 : SeqAt.shaped d = true := by
    unfold SeqAt.shaped
    rw [s.lay]
    exact decide_eq_true (by omega)
  have s2 : SeqAt.shaped e = true := by
    unfold SeqAt.shaped
    rw [t.lay]
    exact decide_eq_true (by omega)
  constructor
  · rw [eqF_obj h]
    unfold eqW datF
    rw [h1, h2]
    simp only [s1, s2, Bool.and_self, if_true]
  · rw [neF_obj h]
    unfold neW datF
    rw [h1, h2]
    simp only [s1, s2, Bool.and_self, if_true]
theorem Sm.mono {d : PyData} {k n k' n' : Nat} (s : Sm d k n) (hk : k ≤ k') (hn : n ≤ n') : Sm d k' n' := ⟨s.lay, Nat.le_trans s.dep hk, s.sho, s.hd, Nat.le_trans s.len hn⟩
theorem sm_one {a : PyData} {k n : Nat} (h : Sm a k n) : Sm (.tuple [a]) (k + 1) (n + 6) ∧ Sm (.list [a]) (k + 1) (n + 6) := by
  have e1 := h.lay
  have e2 := h.dep
  have e3 := h.sho
  have e4 := h.hd
  have e5 := h.len
  constructor
  · refine ⟨?_, ?_, ?_, ?_, ?_⟩
    · show (PyData.canLay0 a && true) = true
      rw [e1]
      rfl
    · show max (PyData.depth a) 0 + 1 ≤ _
      omega
    · show (PyData.showable a && true) = true
      rw [e3]
      rfl
    · show (PyData.hasDict a || false) = false
      rw [e4]
      rfl
    · show shB a + 2 + 0 + 4 ≤ _
      omega
  · refine ⟨?_, ?_, ?_, ?_, ?_⟩
    · show (PyData.canLay0 a && true) = true
      rw [e1]
      rfl
    · show max (PyData.depth a) 0 + 1 ≤ _
      omega
    · show (PyData.showable a && true) = true
      rw [e3]
      rfl
    · show (PyData.hasDict a || false) = false
      rw [e4]
      rfl
    · show shB a + 2 + 0 + 4 ≤ _
      omega
theorem sm_lst2 {a b : PyData} {k n m : Nat} (h : Sm a k n) (g : Sm b k m) : Sm (.list [a, b]) (k + 1) (n + m + 8) := by
  have z := sm_two h g
  exact ⟨z.lay, z.dep, z.sho, z.hd, z.len⟩
theorem sm_int : ∀ i : Int, 0 ≤ i → i ≤ 999 → Sm (.int i) 0 200 := fun i h0 h1 => by
  have e : ∀ n : Nat, n < 1000 → (decide (((n : Nat) : Int).natAbs.log2 < 1920) && decide ((PyData.shown (.int ((n : Nat) : Int))).length ≤ 200)) = true := by decide +kernel
  obtain ⟨n, rfl⟩ := Int.eq_ofNat_of_zero_le h0
  have h := e n (by omega)
  rw [Bool.and_eq_true, decide_eq_true_eq, decide_eq_true_eq] at h
  exact ⟨rfl, Nat.le_refl _, decide_eq_true h.1, rfl, h.2⟩
theorem sm_lit (s : Str) (h : (s.cps.all fun c => decide (c < 1114112)) = true) (hl : s.length ≤ 10) : Sm (.str s) 0 110 := by
  have := sm_str (s := s) (n := 10) (fun c hc => by
    rw [← Array.all_toList] at h
    exact of_decide_eq_true (List.all_eq_true.mp h c hc)) hl
  exact ⟨this.lay, this.dep, this.sho, this.hd, Nat.le_trans this.len (by decide)⟩
theorem toDs_cons {x : Vl} {xs : List Vl} {d : PyData} {ds : List PyData} (h : toD x = some d) (hs : toDs xs = some ds) : toDs (x :: xs) = some (d :: ds) := by
  show (match toD x with
    | some d => (match toDs xs with
      | some ds => some (d :: ds)
      | none => none)
    | none => none) = _
  rw [h, hs]
theorem toD_tup {xs : List Vl} {ds : List PyData} (hs : toDs xs = some ds) : toD (.tup xs) = some (.tuple ds) := by
  show (match toDs xs with
    | some ds => some (PyData.tuple ds)
    | none => none) = _
  rw [hs]
theorem toD_lst {xs : List Vl} {ds : List PyData} (hs : toDs xs = some ds) : toD (.lst xs) = some (.list ds) := by
  show (match toDs xs with
    | some ds => some (PyData.list ds)
    | none => none) = _
  rw [hs]
theorem toDm_tup {m : Mem} {xs : List Vl} {d : PyData} (h : toD (.tup xs) = some d) : toDm m (.tup xs) = some d := h
theorem sm_all : ∀ {ds : List PyData} {k n : Nat}, (∀ d ∈ ds, Sm d k n) → PyData.canLayAll0 ds = true ∧ PyData.depthAll ds ≤ k ∧ PyData.showableAll ds = true ∧ PyData.hasDictAll ds = false ∧ shBs ds ≤ ds.length * (n + 2)
  | [], k, n, _ => ⟨rfl, Nat.zero_le _, rfl, rfl, by show 0 ≤ _; exact Nat.zero_le _⟩
  | d :: ds, k, n, h => by
    obtain ⟨h1, h2, h3, h4, h5⟩ := sm_all fun e he => h e (List.mem_cons_of_mem _ he)
    have s := h d (List.mem_cons_self ..)
    refine ⟨?_, ?_, ?_, ?_, ?_⟩
    · show (PyData.canLay0 d && PyData.canLayAll0 ds) = true
      rw [s.lay, h1]
      rfl
    · show max (PyData.depth d) (PyData.depthAll ds) ≤ k
      have := s.dep
      omega
    · show (PyData.showable d && PyData.showableAll ds) = true
      rw [s.sho, h3]
      rfl
    · show (PyData.hasDict d || PyData.hasDictAll ds) = false
      rw [s.hd, h4]
      rfl
    · show shB d + 2 + shBs ds ≤ (ds.length + 1) * (n + 2)
      have := s.len
      rw [Nat.add_mul]
      omega
theorem sm_list {ds : List PyData} {k n : Nat} (h : ∀ d ∈ ds, Sm d k n) : Sm (.list ds) (k + 1) (ds.length * (n + 2) + 4) := by
  obtain ⟨h1, h2, h3, h4, h5⟩ := sm_all h
  exact ⟨h1, by show PyData.depthAll ds + 1 ≤ _; omega, h3, h4, by show shBs ds + 4 ≤ _; omega⟩
theorem ix0 {x : Vl} {xs : List Vl} (m : Mem) : ixA (.tup (x :: xs)) (.int 0) m = some (x, m) := ixA_tup (atI_of (by decide) rfl)
theorem ix1 {x y : Vl} {xs : List Vl} (m : Mem) : ixA (.tup (x :: y :: xs)) (.int 1) m = some (y, m) := ixA_tup (atI_of (by decide) rfl)
theorem ix2 {x y z : Vl} {xs : List Vl} (m : Mem) : ixA (.tup (x :: y :: z :: xs)) (.int 2) m = some (z, m) := ixA_tup (atI_of (by decide) rfl)
theorem isval_int {i : Int} (h0 : 0 ≤ i) (h1 : i ≤ 999) (m : Mem) : c_is_value_1 [.int i] [] m = some (.ok (.bl true), m) := by
  rw [value_int, decide_eq_true h0, decide_eq_true h1]
  rfl
structure Row (q a b : Int) : Prop where
  q : 0 ≤ q ∧ q ≤ 999
  a : 0 ≤ a ∧ a ≤ 999
  b : 0 ≤ b ∧ b ≤ 999
end
section
mutual
theorem toD_clo : ∀ {u : Vl} {d : PyData}, Z.toD u = some d → ∀ k, Z.clo k u = true
  | .non, _, _, _ => rfl
  | .bl _, _, _, _ => rfl
  | .int _, _, _, _ => rfl
  | .str _, _, _, _ => rfl
  | .tup xs, d, h, k => by
    unfold Z.toD at h
    cases hs : Z.toDs xs with
    | none =>
      rw [hs] at h
      cases h
    | some ds => exact toDs_clo hs k
  | .lst xs, d, h, k => by
    unfold Z.toD at h
    cases hs : Z.toDs xs with
    | none =>
      rw [hs] at h
      cases h
    | some ds => exact toDs_clo hs k
  | .frl xs, d, h, k => by
    unfold Z.toD at h
    cases hs : Z.toDs xs with
    | none =>
      rw [hs] at h
      cases h
    | some ds => exact toDs_clo hs k
theorem toDs_clo : ∀ {xs : List Vl} {ds : List PyData}, Z.toDs xs = some ds → ∀ k, Z.cloL k xs = true
  | [], _, _, _ => rfl
  | x :: xs, ds, h, k => by
    unfold Z.toDs at h
    cases hx : Z.toD x with
    | none =>
      rw [hx] at h
      cases h
    | some d =>
      cases hs : Z.toDs xs with
      | none =>
        rw [hx, hs] at h
        cases h
      | some es =>
        show (Z.clo k x && Z.cloL k xs) = true
        rw [toD_clo hx k, toDs_clo hs k]
        rfl
end
mutual
theorem toD_cnv : ∀ {u : Vl} {d : PyData}, Z.toD u = some d → ∀ (b : Nat) (m : Mem) (fu : Nat), d.depth + 1 ≤ fu → Z.cnv [] b m fu u = some u
  | .non, _, _, _, _, _ + 1, _ => rfl
  | .bl _, _, _, _, _, _ + 1, _ => rfl
  | .int _, _, _, _, _, _ + 1, _ => rfl
  | .str _, _, _, _, _, _ + 1, _ => rfl
  | .tup xs, d, h, b, m, fu + 1, hf => by
    unfold Z.toD at h
    cases hs : Z.toDs xs with
    | none =>
      rw [hs] at h
      cases h
    | some ds =>
      rw [hs] at h
      cases h
      have hd : PyData.depthAll ds + 1 + 1 ≤ fu + 1 := hf
      show (mapO (Z.cnv [] b m fu) xs).map Vl.tup = _
      rw [toDs_cnv hs b m fu (by omega)]
      rfl
  | .lst xs, d, h, b, m, fu + 1, hf => by
    unfold Z.toD at h
    cases hs : Z.toDs xs with
    | none =>
      rw [hs] at h
      cases h
    | some ds =>
      rw [hs] at h
      cases h
      have hd : PyData.depthAll ds + 1 + 1 ≤ fu + 1 := hf
      show (mapO (Z.cnv [] b m fu) xs).map Vl.lst = _
      rw [toDs_cnv hs b m fu (by omega)]
      rfl
  | .frl xs, d, h, b, m, fu + 1, hf => by
    unfold Z.toD at h
    cases hs : Z.toDs xs with
    | none =>
      rw [hs] at h
      cases h
    | some ds =>
      rw [hs] at h
      cases h
      have hd : PyData.depthAll ds + 1 + 1 ≤ fu + 1 := hf
      show (mapO (Z.cnv [] b m fu) xs).map Vl.frl = _
      rw [toDs_cnv hs b m fu (by omega)]
      rfl
theorem toDs_cnv : ∀ {xs : List Vl} {ds : List PyData}, Z.toDs xs = some ds → ∀ (b : Nat) (m : Mem) (fu : Nat), PyData.depthAll ds + 1 ≤ fu → mapO (Z.cnv [] b m fu) xs = some xs
  | [], _, _, _, _, _, _ => rfl
  | x :: xs, ds, h, b, m, fu, hf => by
    unfold Z.toDs at h
    cases hx : Z.toD x with
    | none =>
      rw [hx] at h
      cases h
    | some d =>
      cases hs : Z.toDs xs with
      | none =>
        rw [hx, hs] at h
        cases h
      | some es =>
        rw [hx, hs] at h
        cases h
        have hd : max (PyData.depth d) (PyData.depthAll es) + 1 ≤ fu := hf
        have e1 := toD_cnv hx b m fu (by omega)
        have e2 := toDs_cnv hs b m fu (by omega)
        unfold mapO
        rw [e1, e2]
end
def NR (u : Vl) (m : Mem) : Prop := c_is_row_1 [u] [] m = some (.ok (.bl false), m) ∧ c_is_row_1 [u] [] m = some (.ok (.bl false), m)
theorem row_three {x y z : Vl} {p q r : Bool} {m : Mem} (hx : c_is_value_1 [x] [] m = some (.ok (.bl p), m)) (hy : c_is_value_1 [y] [] m = some (.ok (.bl q), m)) (hz : c_is_value_1 [z] [] m = some (.ok (.bl r), m)) : c_is_row_1 [.tup [x, y, z]] [] m = some (.ok (.bl (p && (q && r))), m) ∧ c_is_row_1 [.tup [x, y, z]] [] m = some (.ok (.bl (p && (q && r))), m) := by
  have hi : isiF csZ (kitT kitL) [.tup [x, y, z], .ty "tuple"] m = some (.bl true, m) := rfl
  have hq : quant (fun l => l.all id) [.lst [.bl p, .bl q, .bl r]] m = some (.bl (p && (q && r)), m) := by
    show some (Vl.bl (([p, q, r] : List Bool).all id), m) = _
    simp
  have z3 : (3 : Nat) ≤ sizeLine := le_size (by decide)
  constructor
  · show bodyD 2 D_is_row [.tup [x, y, z]] m = _
    simp [bodyD, startZ, D_is_row, hi, lenF_tup, wipeE, lcZ, dYes, hx, hy, hz, hq]
  · show bodyD 2 D_is_row [.tup [x, y, z]] m = _
    simp [bodyD, startZ, D_is_row, hi, lenF_tup, wipeE, lcZ, dYes, hx, hy, hz, hq]
theorem isrow_three {x y z : Vl} {p q r : Bool} {m : Mem} (hx : c_is_value_1 [x] [] m = some (.ok (.bl p), m)) (hy : c_is_value_1 [y] [] m = some (.ok (.bl q), m)) (hz : c_is_value_1 [z] [] m = some (.ok (.bl r), m)) (h : (p && (q && r)) = false) : NR (.tup [x, y, z]) m := by
  have e := row_three hx hy hz
  rw [h] at e
  exact e
theorem isrow_len {xs : List Vl} (h : xs.length ≠ 3) (m : Mem) : NR (.tup xs) m := by
  have hi : isiF csZ (kitT kitL) [.tup xs, .ty "tuple"] m = some (.bl true, m) := rfl
  have hl : ¬ ((xs.length : Int) = 3) := by omega
  constructor
  · show bodyD 2 D_is_row [.tup xs] m = _
    simp [bodyD, startZ, D_is_row, hi, lenF_tup, hl]
  · show bodyD 2 D_is_row [.tup xs] m = _
    simp [bodyD, startZ, D_is_row, hi, lenF_tup, hl]
theorem isrow_other {u : Vl} {m : Mem} (hi : isiF csZ (kitT kitL) [u, .ty "tuple"] m = some (.bl false, m)) : NR u m := by
  constructor
  · show bodyD 2 D_is_row [u] m = _
    simp [bodyD, startZ, D_is_row, hi]
  · show bodyD 2 D_is_row [u] m = _
    simp [bodyD, startZ, D_is_row, hi]
theorem isrow_row {q a b : Int} (h : Row q a b) (m : Mem) : c_is_row_1 [.tup [.int q, .int a, .int b]] [] m = some (.ok (.bl true), m) ∧ c_is_row_1 [.tup [.int q, .int a, .int b]] [] m = some (.ok (.bl true), m) := row_three (isval_int h.q.1 h.q.2 m) (isval_int h.a.1 h.a.2 m) (isval_int h.b.1 h.b.2 m)
structure Odv (t : Vl) : Prop where
  v : ∀ m, c_is_value_1 [t] [] m = some (.ok (.bl false), m)
  r : ∀ m, NR t m
  d : ∃ d, Z.toD t = some d ∧ Sm d 5 500
def ODs : List Vl := [.non, .bl true, .bl false, .int (-1), .int 1000, .int 10000000000000000000, .int (-10000000000000000000), .str "", .str "a", .str "7", .tup [], .lst [], .tup [.int 1], .lst [.int 0]]
theorem odv_list : ∀ t ∈ ODs, Odv t := by
  unfold ODs
  repeat (refine List.forall_mem_cons.mpr ⟨⟨fun m => by kernel_rfl, fun m => ⟨by kernel_rfl, by kernel_rfl⟩, ⟨_, rfl, ⟨by decide +kernel, by decide +kernel, by decide +kernel, by decide +kernel, by decide +kernel⟩⟩⟩, ?_⟩)
  exact fun x hx => nomatch hx
structure Bd (u : Vl) : Prop where
  r : ∀ m, NR u m
  d : ∃ d, Z.toD u = some d ∧ Sm d 20 6000
theorem bd_odv {t : Vl} (h : Odv t) : Bd t := by
  obtain ⟨d, h1, h2⟩ := h.d
  exact ⟨h.r, d, h1, h2.mono (by decide) (by decide)⟩
structure Sd (x : Vl) : Prop where
  d : ∃ d, Z.toD x = some d ∧ Sm d 5 500
theorem sd_int {i : Int} (h0 : 0 ≤ i) (h1 : i ≤ 999) : Sd (.int i) := ⟨_, rfl, (sm_int i h0 h1).mono (by decide) (by decide)⟩
theorem sds : ∀ {L : List Vl}, (∀ x ∈ L, Sd x) → ∃ ds, Z.toDs L = some ds ∧ ds.length = L.length ∧ ∀ d ∈ ds, Sm d 5 500
  | [], _ => ⟨[], rfl, rfl, fun _ h => nomatch h⟩
  | x :: L, h => by
    obtain ⟨d, h1, h2⟩ := (h x (List.mem_cons_self ..)).d
    obtain ⟨ds, h3, h4, h5⟩ := sds fun y hy => h y (List.mem_cons_of_mem _ hy)
    refine ⟨d :: ds, toDs_cons h1 h3, by rw [List.length_cons, List.length_cons, h4], fun e he => ?_⟩
    rcases List.mem_cons.mp he with rfl | he
    · exact h2
    · exact h5 e he
theorem sm_tuple {ds : List PyData} {k n : Nat} (h : ∀ d ∈ ds, Sm d k n) : Sm (.tuple ds) (k + 1) (ds.length * (n + 2) + 4) := by
  have z := sm_list h
  exact ⟨z.lay, z.dep, z.sho, z.hd, z.len⟩
theorem d_tup {L : List Vl} (h : ∀ x ∈ L, Sd x) (hl : L.length ≤ 10) : ∃ d, Z.toD (.tup L) = some d ∧ Sm d 19 5100 := by
  obtain ⟨ds, h1, h2, h3⟩ := sds h
  exact ⟨_, toD_tup h1, (sm_tuple h3).mono (by decide) (by rw [h2]; omega)⟩
theorem d_lst {L : List Vl} (h : ∀ x ∈ L, Sd x) (hl : L.length ≤ 10) : ∃ d, Z.toD (.lst L) = some d ∧ Sm d 19 5100 := by
  obtain ⟨ds, h1, h2, h3⟩ := sds h
  exact ⟨_, toD_lst h1, (sm_list h3).mono (by decide) (by rw [h2]; omega)⟩
section
variable {ns : List Int} {n : Nat} {m : Mem}
theorem row_at {q a b : Int} (z : Int) (h0 : 0 ≤ z) (h1 : z < 3) (hr : Row q a b) : ∃ i : Int, (0 ≤ i ∧ i ≤ 999) ∧ ([.int q, .int a, .int b] : List Vl)[z.toNat]? = some (.int i) := by
  rcases (by omega : z = 0 ∨ z = 1 ∨ z = 2) with rfl | rfl | rfl
  · exact ⟨q, hr.q, rfl⟩
  · exact ⟨a, hr.a, rfl⟩
  · exact ⟨b, hr.b, rfl⟩
theorem row_sd {q a b : Int} (hr : Row q a b) : ∀ x ∈ ([.int q, .int a, .int b] : List Vl), Sd x := fun x hx => by
  simp only [List.mem_cons, List.not_mem_nil, or_false] at hx
  rcases hx with rfl | rfl | rfl
  · exact sd_int hr.q.1 hr.q.2
  · exact sd_int hr.a.1 hr.a.2
  · exact sd_int hr.b.1 hr.b.2
theorem cut_to (z : Int) (h0 : 0 ≤ z) (h1 : z < 3) (xs : List Vl) (hl : xs.length = 3) (m : Mem) : slD (.tup xs) none (some z) m = some (.tup (xs.take z.toNat), m) := by
  have s1 : HT.sIx xs.length 0 none = 0 := rfl
  have s2 : HT.sIx xs.length xs.length (some z) = z.toNat := by
    show (if z < 0 then (z + (xs.length : Int)).toNat else min z.toNat xs.length) = _
    rw [if_neg (by omega)]
    omega
  show (if (decide (HT.sIx xs.length 0 none = 0) && decide (HT.sIx xs.length xs.length (some z) = xs.length)) = true then none else some (Vl.tup (cutZ xs none (some z)), m)) = _
  unfold cutZ
  rw [s1, s2]
  rw [if_neg (by
    rw [Bool.and_eq_true, decide_eq_true_eq, decide_eq_true_eq]
    omega)]
  simp
theorem enum_three (x y z : Vl) : enumZ [x, y, z] = [.tup [.int 0, x], .tup [.int 1, y], .tup [.int 2, z]] := rfl
end
end
section
structure Tr where
  q : Int
  a : Int
  b : Int
def Tr.v (t : Tr) : Vl := .tup [.int t.q, .int t.a, .int t.b]
def Tr.Ok (t : Tr) : Prop := Row t.q t.a t.b
inductive It where
  | ok (t : Tr)
  | bent (u : Vl)
def It.v : It → Vl
  | .ok t => t.v
  | .bent u => u
def It.Ok : It → Prop
  | .ok t => t.Ok
  | .bent u => Bd u
inductive Er where
  | row (u : Vl)
  | key (k : Int)
  | cell (c : Str)
def Er.cls : Er → Str
  | .row _ => "BadRow"
  | .key _ => "KeyTaken"
  | .cell _ => "Taken"
def Er.fs : Er → List (Str × Vl)
  | .row u => [("row", u)]
  | .key k => [("key", .int k)]
  | .cell c => [("column", .str c)]
def Er.v : Er → Vl
  | .row u => .tup [.str "row", u]
  | .key k => .tup [.str "key", .int k]
  | .cell c => .tup [.str "cell", .str c]
abbrev UQ : List Str := ["", "a", "b", "ab"]
def hasA (u : Str) : Bool := u == "a" || u == "ab"
def hasB (u : Str) : Bool := u == "b" || u == "ab"
theorem in_a : ∀ u ∈ UQ, ∀ m : Mem, inA false (.str "a") (.str u) m = some (.bl (hasA u), m) := by
  simp only [List.forall_mem_cons]
  refine ⟨fun m => by kernel_rfl, fun m => by kernel_rfl, fun m => by kernel_rfl, fun m => by kernel_rfl, fun x hx => nomatch hx⟩
theorem in_b : ∀ u ∈ UQ, ∀ m : Mem, inA false (.str "b") (.str u) m = some (.bl (hasB u), m) := by
  simp only [List.forall_mem_cons]
  refine ⟨fun m => by kernel_rfl, fun m => by kernel_rfl, fun m => by kernel_rfl, fun m => by kernel_rfl, fun x hx => nomatch hx⟩
def bad (u : Str) (R : List Tr) (t : Tr) : Option Er :=
  if (R.any fun r => decide (r.q = t.q)) = true then some (.key t.q)
  else if (hasA u && R.any fun r => decide (r.a = t.a)) = true then some (.cell "a")
  else if (hasB u && R.any fun r => decide (r.b = t.b)) = true then some (.cell "b")
  else none
def goS (u : Str) : List Tr → List It → List Tr ⊕ Er
  | R, [] => .inl R
  | R, .ok t :: l => (match bad u R t with
    | none => goS u (R ++ [t]) l
    | some e => .inr e)
  | _, .bent x :: _ => .inr (.row x)
theorem look_any {κ : Type} [DecidableEq κ] (ks : List (κ × Vl)) (k : κ) : (lookZ ks k).isSome = ks.any fun p => decide (p.1 = k) := by
  induction ks with
  | nil => rfl
  | cons p ks ih =>
    unfold lookZ at ih ⊢
    rw [List.find?_cons, List.any_cons]
    cases h : decide (p.1 = k)
    · simpa using ih
    · rfl
theorem put_new {κ : Type} [DecidableEq κ] {ks : List (κ × Vl)} {k : κ} (v : Vl) (h : (ks.any fun p => decide (p.1 = k)) = false) : putZ ks k v = ks ++ [(k, v)] := by
  unfold putZ
  rw [h]
  rfl
def Fd (R : List Tr) : List (Key × Vl) := R.map fun t => (.inl t.q, t.v)
def ka (x : Int) : List Key := [.inr "a", .inl x]
def kb (x : Int) : List Key := [.inr "b", .inl x]
def Ud (u : Str) : List Tr → List (List Key × Vl)
  | [] => []
  | t :: R => (if hasA u = true then [(ka t.a, .bl true)] else []) ++ ((if hasB u = true then [(kb t.b, .bl true)] else []) ++ Ud u R)
theorem fd_any (R : List Tr) (q : Int) : ((Fd R).any fun p => decide (p.1 = (.inl q : Key))) = R.any fun r => decide (r.q = q) := by
  unfold Fd
  rw [List.any_map]
  congr 1
  funext r
  show decide ((Sum.inl r.q : Key) = Sum.inl q) = _
  rw [decide_eq_decide]
  exact ⟨fun h => Sum.inl.inj h, fun h => by rw [h]⟩
theorem ka_eq (x y : Int) : decide (ka x = ka y) = decide (x = y) := by
  rw [decide_eq_decide]
  unfold ka
  constructor
  · intro h
    simpa using h
  · intro h
    rw [h]
theorem kb_eq (x y : Int) : decide (kb x = kb y) = decide (x = y) := by
  rw [decide_eq_decide]
  unfold kb
  constructor
  · intro h
    simpa using h
  · intro h
    rw [h]
theorem kab (x y : Int) : decide (ka x = kb y) = false ∧ decide (kb y = ka x) = false := by
  have hne : ¬ (("a" : Str) = "b") := by decide +kernel
  constructor
  · refine decide_eq_false fun h => hne ?_
    unfold ka kb at h
    injection h with h1 h2
    exact Sum.inr.inj h1
  · refine decide_eq_false fun h => hne ?_
    unfold ka kb at h
    injection h with h1 h2
    exact (Sum.inr.inj h1).symm
theorem ud_a (u : Str) (x : Int) : ∀ R : List Tr, ((Ud u R).any fun p => decide (p.1 = ka x)) = (hasA u && R.any fun r => decide (r.a = x))
  | [] => by
    show false = (hasA u && false)
    rw [Bool.and_false]
  | t :: R => by
    unfold Ud
    rw [List.any_append, List.any_append, ud_a u x R, List.any_cons]
    cases hasA u <;> cases hasB u <;> simp [ka_eq, (kab _ _).2]
theorem ud_b (u : Str) (x : Int) : ∀ R : List Tr, ((Ud u R).any fun p => decide (p.1 = kb x)) = (hasB u && R.any fun r => decide (r.b = x))
  | [] => by
    show false = (hasB u && false)
    rw [Bool.and_false]
  | t :: R => by
    unfold Ud
    rw [List.any_append, List.any_append, ud_b u x R, List.any_cons]
    cases hasA u <;> cases hasB u <;> simp [kb_eq, (kab _ _).1]
theorem ud_snoc (u : Str) (t : Tr) : ∀ R : List Tr, Ud u (R ++ [t]) = (Ud u R ++ (if hasA u = true then [(ka t.a, .bl true)] else [])) ++ (if hasB u = true then [(kb t.b, .bl true)] else [])
  | [] => by
    show _ ++ (_ ++ []) = _
    rw [List.append_nil]
    rfl
  | r :: R => by
    show _ ++ (_ ++ Ud u (R ++ [t])) = _
    rw [ud_snoc u t R]
    show _ = ((_ ++ (_ ++ Ud u R)) ++ _) ++ _
    simp only [List.append_assoc]
theorem ud_len (u : Str) : ∀ R : List Tr, (Ud u R).length ≤ 2 * R.length
  | [] => Nat.le_refl _
  | t :: R => by
    have ih := ud_len u R
    unfold Ud
    rw [List.length_append, List.length_append, List.length_cons]
    split <;> split <;> simp only [List.length_cons, List.length_nil] <;> omega
section
variable {u : Str} (hu : u ∈ UQ) {X : Vl}
include hu
theorem col_step (c : Str) (hc : Bool) (i x : Int) (kk : List Key) (hkk : kk = [.inr c, .inl x]) (hin : ∀ m : Mem, inA false (.str c) (.str u) m = some (.bl hc, m)) {t : Tr} (hix : ∀ m, ixA t.v (.int i) m = some (.int x, m)) {m0 m1 : Cell} {W : List (List Key × Vl)} (hW : W.length ≤ 1000) :
    (hc = false → D_Store_init_3_2_0 [some (.obj 0), some (.str u), some X, some (.obj 1), some (.obj 2), some t.v, some (.int i), some (.str c), none] [m0, m1, .dit W] = some (.nx [some (.obj 0), some (.str u), some X, some (.obj 1), some (.obj 2), some t.v, some (.int i), some (.str c), none], [m0, m1, .dit W])) ∧
    (hc = true → (W.any fun p => decide (p.1 = kk)) = false → D_Store_init_3_2_0 [some (.obj 0), some (.str u), some X, some (.obj 1), some (.obj 2), some t.v, some (.int i), some (.str c), none] [m0, m1, .dit W] = some (.nx [some (.obj 0), some (.str u), some X, some (.obj 1), some (.obj 2), some t.v, some (.int i), some (.str c), none], [m0, m1, .dit (W ++ [(kk, .bl true)])])) ∧
    (hc = true → (W.any fun p => decide (p.1 = kk)) = true → D_Store_init_3_2_0 [some (.obj 0), some (.str u), some X, some (.obj 1), some (.obj 2), some t.v, some (.int i), some (.str c), none] [m0, m1, .dit W] = some (.ex "Taken" [("column", .str c)] [some (.obj 0), some (.str u), some X, some (.obj 1), some (.obj 2), some t.v, some (.int i), some (.str c), none], [m0, m1, .dit W])) := by
  have z2 : (2 : Nat) ≤ sizeLine := le_size (by decide)
  have hd : ditD [m0, m1, .dit W] (.obj 2) = some W := ditD_obj rfl
  have hm : mapO keyD [.str c, .int x] = some kk := by rw [hkk]; rfl
  have hl := look_any W kk
  have hz : W.length < sizeLine := Nat.lt_of_le_of_lt hW (by decide)
  refine ⟨fun h => ?_, fun h h2 => ?_, fun h h2 => ?_⟩
  · rw [h] at hin
    simp [D_Store_init_3_2_0, hin]
  · rw [h] at hin
    rw [h2] at hl
    have hp := put_new (.bl true) h2
    simp [D_Store_init_3_2_0, D_Store_init_3_2_0_0, D_Store_init_3_2_0_1, hin, hix, z2, hd, hm, hl, hz, hp]
  · rw [h] at hin
    rw [h2] at hl
    simp [D_Store_init_3_2_0, D_Store_init_3_2_0_0, D_Store_init_3_2_0_0_0, hin, hix, z2, hd, hm, hl]
end
end
section
def rowD : DS := dSeq D_Store_init_3_0 (dSeq D_Store_init_3_1 (dSeq D_Store_init_3_2 D_Store_init_3_3))
def mR (u : Str) (R : List Tr) : Mem := [.ins "Store" [], .dic (Fd R), .dit (Ud u R)]
section
variable {u : Str} (hu : u ∈ UQ) {X : Vl}
include hu
theorem row_ok {t : Tr} (ht : t.Ok) {R : List Tr} (hR : R.length ≤ 100) (e6 e7 : Option Vl) :
    (bad u R t = none → rowD [some (.obj 0), some (.str u), some X, some (.obj 1), some (.obj 2), some t.v, e6, e7, none] (mR u R) = some (.nx [some (.obj 0), some (.str u), some X, some (.obj 1), some (.obj 2), some t.v, some (.int 2), some (.str "b"), none], mR u (R ++ [t]))) ∧
    (∀ e, bad u R t = some e → ∃ env' m', rowD [some (.obj 0), some (.str u), some X, some (.obj 1), some (.obj 2), some t.v, e6, e7, none] (mR u R) = some (.ex e.cls e.fs env', m')) := by
  have z2 : (2 : Nat) ≤ sizeLine := le_size (by decide)
  have hr := fun m => (isrow_row ht m).1
  have hr : ∀ m, c_is_row_1 [t.v] [] m = some (.ok (.bl true), m) := hr
  have i0 : ∀ m, ixA t.v (.int 0) m = some (.int t.q, m) := fun m => ix0 m
  have i1 : ∀ m, ixA t.v (.int 1) m = some (.int t.a, m) := fun m => ix1 m
  have i2 : ∀ m, ixA t.v (.int 2) m = some (.int t.b, m) := fun m => ix2 m
  have hd : dicD (mR u R) (.obj 1) = some (Fd R) := dicD_obj rfl
  have hk : inK false (.int t.q) (.obj 1) (mR u R) = some (.bl (R.any fun r => decide (r.q = t.q)), mR u R) := by
    rw [inK_obj (ks := Fd R) (k := .inl t.q) rfl rfl, look_any, fd_any]
    rfl
  have l1 := ud_len u R
  obtain ⟨A1, A2, A3⟩ := col_step hu (X := X) "a" (hasA u) 1 t.a (ka t.a) rfl (in_a u hu) i1 (m0 := .ins "Store" []) (m1 := .dic (Fd R)) (W := Ud u R) (by omega)
  obtain ⟨B1, B2, B3⟩ := col_step hu (X := X) "b" (hasB u) 2 t.b (kb t.b) rfl (in_b u hu) i2 (m0 := .ins "Store" []) (m1 := .dic (Fd R)) (W := Ud u R ++ if hasA u = true then [(ka t.a, .bl true)] else []) (by
    rw [List.length_append]
    split <;> simp only [List.length_cons, List.length_nil] <;> omega)
  have hB : ((Ud u R ++ if hasA u = true then [(ka t.a, Vl.bl true)] else []).any fun p => decide (p.1 = kb t.b)) = (hasB u && R.any fun r => decide (r.b = t.b)) := by
    rw [List.any_append, ud_b]
    split <;> simp [(kab _ _).1]
  rw [ud_a] at A2 A3
  rw [hB] at B2 B3
  have hz : (Fd R).length < sizeLine := Nat.lt_of_le_of_lt (show (Fd R).length ≤ 100 by unfold Fd; rw [List.length_map]; exact hR) (by decide)
  have s0 : ∀ e6 e7 : Option Vl, D_Store_init_3_0 [some (.obj 0), some (.str u), some X, some (.obj 1), some (.obj 2), some t.v, e6, e7, none] (mR u R) = some (.nx [some (.obj 0), some (.str u), some X, some (.obj 1), some (.obj 2), some t.v, e6, e7, none], mR u R) := fun e6 e7 => by
    simp [D_Store_init_3_0, hr]
  have f3 : ∀ (env : Ev) (m : Mem), D_Store_init_3_2 env m = forL (gTupD (gsCons (gVar 6) (gsCons (gVar 7) gsNil))) D_Store_init_3_2_0 [.tup [.int 1, .str "a"], .tup [.int 2, .str "b"]] env m := fun env m => by
    simp [D_Store_init_3_2, iTupD, z2]
  unfold bad
  cases hq : (R.any fun r => decide (r.q = t.q)) with
  | true =>
    rw [hq] at hk
    refine ⟨(fun h => nomatch h), fun e h => ?_⟩
    cases h
    refine ⟨[some (.obj 0), some (.str u), some X, some (.obj 1), some (.obj 2), some t.v, e6, e7, none], mR u R, ?_⟩
    unfold rowD
    rw [dSeq_ap, s0, thenS_nx, dSeq_ap]
    simp [D_Store_init_3_1, D_Store_init_3_1_0, i0, hk, Er.cls, Er.fs]
  | false =>
    rw [hq] at hk
    have s1 : D_Store_init_3_1 [some (.obj 0), some (.str u), some X, some (.obj 1), some (.obj 2), some t.v, e6, e7, none] (mR u R) = some (.nx [some (.obj 0), some (.str u), some X, some (.obj 1), some (.obj 2), some t.v, e6, e7, none], mR u R) := by
      simp [D_Store_init_3_1, i0, hk]
    have hput : D_Store_init_3_3 [some (.obj 0), some (.str u), some X, some (.obj 1), some (.obj 2), some t.v, some (.int 2), some (.str "b"), none] [.ins "Store" [], .dic (Fd R), .dit (Ud u (R ++ [t]))] = some (.nx [some (.obj 0), some (.str u), some X, some (.obj 1), some (.obj 2), some t.v, some (.int 2), some (.str "b"), none], mR u (R ++ [t])) := by
      have hp := put_new (ks := Fd R) (k := .inl t.q) t.v (by rw [fd_any]; exact hq)
      have kd : keyD (.int t.q) = some (.inl t.q) := rfl
      have e : Fd R ++ [(.inl t.q, t.v)] = Fd (R ++ [t]) := by
        unfold Fd
        rw [List.map_append]
        rfl
      simp [D_Store_init_3_3, i0, kd, hz, hp, e]
      rfl
    cases ha : (hasA u && R.any fun r => decide (r.a = t.a)) with
    | true =>
      have hA : hasA u = true := (Bool.and_eq_true_iff.mp ha).1
      refine ⟨(fun h => nomatch h), fun e h => ?_⟩
      cases h
      have a3 := A3 hA ha
      refine ⟨[some (.obj 0), some (.str u), some X, some (.obj 1), some (.obj 2), some t.v, some (.int 1), some (.str "a"), none], mR u R, ?_⟩
      unfold rowD
      rw [dSeq_ap, s0, thenS_nx, dSeq_ap, s1, thenS_nx, dSeq_ap, f3]
      have st : forL (gTupD (gsCons (gVar 6) (gsCons (gVar 7) gsNil))) D_Store_init_3_2_0 [.tup [.int 1, .str "a"], .tup [.int 2, .str "b"]] [some (.obj 0), some (.str u), some X, some (.obj 1), some (.obj 2), some t.v, e6, e7, none] (mR u R) = some (.ex "Taken" [("column", .str "a")] [some (.obj 0), some (.str u), some X, some (.obj 1), some (.obj 2), some t.v, some (.int 1), some (.str "a"), none], mR u R) := by
        unfold forL
        simp only [gTupD, gsCons_ap, gVar_ap, gsNil_ap]
        show (match D_Store_init_3_2_0 [some (.obj 0), some (.str u), some X, some (.obj 1), some (.obj 2), some t.v, some (.int 1), some (.str "a"), none] (mR u R) with
          | some (.nx env2, m2) => _
          | some (.ct env2, m2) => _
          | some (.bk env2, m2) => _
          | r => r) = _
        unfold mR
        rw [a3]
      rw [st]
      rfl
    | false =>
      have a2 : D_Store_init_3_2_0 [some (.obj 0), some (.str u), some X, some (.obj 1), some (.obj 2), some t.v, some (.int 1), some (.str "a"), none] (mR u R) = some (.nx [some (.obj 0), some (.str u), some X, some (.obj 1), some (.obj 2), some t.v, some (.int 1), some (.str "a"), none], [.ins "Store" [], .dic (Fd R), .dit (Ud u R ++ if hasA u = true then [(ka t.a, .bl true)] else [])]) := by
        cases hA : hasA u with
        | false =>
          rw [if_neg (by decide), List.append_nil]
          exact A1 hA
        | true =>
          rw [if_pos rfl]
          exact A2 hA ha
      have st : ∀ r, D_Store_init_3_2_0 [some (.obj 0), some (.str u), some X, some (.obj 1), some (.obj 2), some t.v, some (.int 2), some (.str "b"), none] [.ins "Store" [], .dic (Fd R), .dit (Ud u R ++ if hasA u = true then [(ka t.a, .bl true)] else [])] = some r → (∀ env m, r ≠ (.ct env, m)) → (∀ env m, r ≠ (.bk env, m)) → forL (gTupD (gsCons (gVar 6) (gsCons (gVar 7) gsNil))) D_Store_init_3_2_0 [.tup [.int 1, .str "a"], .tup [.int 2, .str "b"]] [some (.obj 0), some (.str u), some X, some (.obj 1), some (.obj 2), some t.v, e6, e7, none] (mR u R) = some r := fun r hrr h1 h2 => by
        unfold forL
        simp only [gTupD, gsCons_ap, gVar_ap, gsNil_ap]
        show (match D_Store_init_3_2_0 [some (.obj 0), some (.str u), some X, some (.obj 1), some (.obj 2), some t.v, some (.int 1), some (.str "a"), none] (mR u R) with
          | some (.nx env2, m2) => forL (gTupD (gsCons (gVar 6) (gsCons (gVar 7) gsNil))) D_Store_init_3_2_0 [.tup [.int 2, .str "b"]] env2 m2
          | some (.ct env2, m2) => _
          | some (.bk env2, m2) => _
          | r => r) = _
        rw [a2]
        dsimp only
        unfold forL
        simp only [gTupD, gsCons_ap, gVar_ap, gsNil_ap]
        show (match D_Store_init_3_2_0 [some (.obj 0), some (.str u), some X, some (.obj 1), some (.obj 2), some t.v, some (.int 2), some (.str "b"), none] [.ins "Store" [], .dic (Fd R), .dit (Ud u R ++ if hasA u = true then [(ka t.a, .bl true)] else [])] with
          | some (.nx env2, m2) => forL (gTupD (gsCons (gVar 6) (gsCons (gVar 7) gsNil))) D_Store_init_3_2_0 [] env2 m2
          | some (.ct env2, m2) => forL (gTupD (gsCons (gVar 6) (gsCons (gVar 7) gsNil))) D_Store_init_3_2_0 [] env2 m2
          | some (.bk env2, m2) => some (.nx env2, m2)
          | r => r) = _
        rw [hrr]
        obtain ⟨fl, m2⟩ := r
        cases fl with
        | nx env => rfl
        | rt v => rfl
        | ex c fs env => rfl
        | ct env => exact absurd rfl (h1 env m2)
        | bk env => exact absurd rfl (h2 env m2)
      cases hb : (hasB u && R.any fun r => decide (r.b = t.b)) with
      | true =>
        have hB' : hasB u = true := (Bool.and_eq_true_iff.mp hb).1
        refine ⟨(fun h => nomatch h), fun e h => ?_⟩
        cases h
        have s2 := st _ (B3 hB' hb) (fun _ _ h => nomatch h) (fun _ _ h => nomatch h)
        refine ⟨[some (.obj 0), some (.str u), some X, some (.obj 1), some (.obj 2), some t.v, some (.int 2), some (.str "b"), none], [.ins "Store" [], .dic (Fd R), .dit (Ud u R ++ if hasA u = true then [(ka t.a, .bl true)] else [])], ?_⟩
        unfold rowD
        rw [dSeq_ap, s0, thenS_nx, dSeq_ap, s1, thenS_nx, dSeq_ap, f3, s2]
        rfl
      | false =>
        refine ⟨fun _ => ?_, fun e h => nomatch h⟩
        have b2 : D_Store_init_3_2_0 [some (.obj 0), some (.str u), some X, some (.obj 1), some (.obj 2), some t.v, some (.int 2), some (.str "b"), none] [.ins "Store" [], .dic (Fd R), .dit (Ud u R ++ if hasA u = true then [(ka t.a, .bl true)] else [])] = some (.nx [some (.obj 0), some (.str u), some X, some (.obj 1), some (.obj 2), some t.v, some (.int 2), some (.str "b"), none], [.ins "Store" [], .dic (Fd R), .dit (Ud u (R ++ [t]))]) := by
          rw [ud_snoc]
          cases hB' : hasB u with
          | false =>
            simp only [Bool.false_eq_true, if_false, List.append_nil]
            exact B1 hB'
          | true =>
            simp only [if_true]
            exact B2 hB' hb
        have s2 := st _ b2 (fun _ _ h => nomatch h) (fun _ _ h => nomatch h)
        unfold rowD
        rw [dSeq_ap, s0, thenS_nx, dSeq_ap, s1, thenS_nx, dSeq_ap, f3, s2, thenS_nx, hput]
end
end
section
section
variable {u : Str} (hu : u ∈ UQ) {X : Vl}
include hu
theorem init_loop : ∀ (l : List It) (R : List Tr) (e5 e6 e7 : Option Vl), (∀ x ∈ l, x.Ok) → R.length + l.length ≤ 100 →
    (∀ R', goS u R l = .inl R' → ∃ f5 f6 f7, forL (gVar 5) rowD (l.map It.v) [some (.obj 0), some (.str u), some X, some (.obj 1), some (.obj 2), e5, e6, e7, none] (mR u R) = some (.nx [some (.obj 0), some (.str u), some X, some (.obj 1), some (.obj 2), f5, f6, f7, none], mR u R')) ∧
    (∀ e, goS u R l = .inr e → ∃ env' m', forL (gVar 5) rowD (l.map It.v) [some (.obj 0), some (.str u), some X, some (.obj 1), some (.obj 2), e5, e6, e7, none] (mR u R) = some (.ex e.cls e.fs env', m'))
  | [], R, e5, e6, e7, _, _ => ⟨fun R' h => by
      cases h
      exact ⟨e5, e6, e7, rfl⟩, fun e h => nomatch h⟩
  | .bent x :: l, R, e5, e6, e7, hl, hz => by
    have hb : Bd x := hl (.bent x) (List.mem_cons_self ..)
    have hr := fun m => (hb.r m).1
    refine ⟨(fun R' h => nomatch h), fun e h => ?_⟩
    cases h
    refine ⟨[some (.obj 0), some (.str u), some X, some (.obj 1), some (.obj 2), some x, e6, e7, none], mR u R, ?_⟩
    have b : rowD [some (.obj 0), some (.str u), some X, some (.obj 1), some (.obj 2), some x, e6, e7, none] (mR u R) = some (.ex "BadRow" [("row", x)] [some (.obj 0), some (.str u), some X, some (.obj 1), some (.obj 2), some x, e6, e7, none], mR u R) := by
      unfold rowD
      rw [dSeq_ap]
      simp [D_Store_init_3_0, D_Store_init_3_0_0, hr]
    rw [List.map_cons]
    unfold forL
    simp only [gVar_ap]
    show (match rowD [some (.obj 0), some (.str u), some X, some (.obj 1), some (.obj 2), some x, e6, e7, none] (mR u R) with
      | some (.nx env2, m2) => forL (gVar 5) rowD (l.map It.v) env2 m2
      | some (.ct env2, m2) => forL (gVar 5) rowD (l.map It.v) env2 m2
      | some (.bk env2, m2) => some (.nx env2, m2)
      | r => r) = _
    rw [b]
    rfl
  | .ok t :: l, R, e5, e6, e7, hl, hz => by
    have ht : t.Ok := hl (.ok t) (List.mem_cons_self ..)
    rw [List.length_cons] at hz
    obtain ⟨r1, r2⟩ := row_ok hu (X := X) ht (R := R) (by omega) e6 e7
    have unf : forL (gVar 5) rowD ((It.ok t :: l).map It.v) [some (.obj 0), some (.str u), some X, some (.obj 1), some (.obj 2), e5, e6, e7, none] (mR u R) = (match rowD [some (.obj 0), some (.str u), some X, some (.obj 1), some (.obj 2), some t.v, e6, e7, none] (mR u R) with
      | some (.nx env2, m2) => forL (gVar 5) rowD (l.map It.v) env2 m2
      | some (.ct env2, m2) => forL (gVar 5) rowD (l.map It.v) env2 m2
      | some (.bk env2, m2) => some (.nx env2, m2)
      | r => r) := rfl
    have hg : goS u R (.ok t :: l) = (match bad u R t with
      | none => goS u (R ++ [t]) l
      | some e => .inr e) := rfl
    rw [unf, hg]
    cases hb : bad u R t with
    | none =>
      rw [r1 hb]
      dsimp only
      exact init_loop l (R ++ [t]) (some t.v) (some (.int 2)) (some (.str "b")) (fun x hx => hl x (List.mem_cons_of_mem _ hx)) (by rw [List.length_append, List.length_singleton]; omega)
    | some e0 =>
      obtain ⟨env', m', e⟩ := r2 e0 hb
      rw [e]
      dsimp only
      refine ⟨(fun R' h => nomatch h), fun e h => ?_⟩
      cases h
      exact ⟨env', m', rfl⟩
theorem uniq_ok (m : Mem) : c_is_unique_1 [.str u] [] m = some (.ok (.bl true), m) := by
  have h : ∀ u ∈ UQ, c_is_unique_1 [.str u] [] m = some (.ok (.bl true), m) := by
    simp only [List.forall_mem_cons]
    refine ⟨by kernel_rfl, by kernel_rfl, by kernel_rfl, by kernel_rfl, fun x hx => nomatch hx⟩
  exact h u hu
end
def rowsOf (R : List Tr) : List Vl := (isort (R.map Tr.q)).map fun q => (lookZ (Fd R) (.inl q)).getD .non
def stV (u : Str) (R : List Tr) : Vl := .ins "Store" [("rows", .tup (rowsOf R)), ("unique", .str u)]
theorem keysF : ∀ R : List Tr, mapO (fun p : Key × Vl => keyI p.1) (Fd R) = some (R.map Tr.q)
  | [] => rfl
  | t :: R => by
    show mapO (fun p : Key × Vl => keyI p.1) ((.inl t.q, t.v) :: Fd R) = _
    unfold mapO
    rw [keysF R]
    rfl
theorem lookF {R : List Tr} {q : Int} (h : q ∈ R.map Tr.q) : ∃ t ∈ R, t.q = q ∧ lookZ (Fd R) (.inl q) = some t.v := by
  induction R with
  | nil => cases h
  | cons r R ih =>
    by_cases e : r.q = q
    · refine ⟨r, List.mem_cons_self .., e, ?_⟩
      have : (Sum.inl r.q : Key) = Sum.inl q := by rw [e]
      simp [Fd, lookZ, e]
    · have h' : q ∈ R.map Tr.q := by
        rcases List.mem_cons.mp h with h | h
        · exact absurd h.symm e
        · exact h
      obtain ⟨t, h1, h2, h3⟩ := ih h'
      refine ⟨t, List.mem_cons_of_mem _ h1, h2, ?_⟩
      have hne : ¬ ((Sum.inl r.q : Key) = Sum.inl q) := fun z => e (Sum.inl.inj z)
      have : lookZ (Fd (r :: R)) (.inl q) = lookZ (Fd R) (.inl q) := by
        unfold lookZ Fd
        rw [List.map_cons, List.find?_cons, decide_eq_false hne]
      rw [this]
      exact h3
theorem rowsOf_mem {R : List Tr} : ∀ x ∈ rowsOf R, ∃ t ∈ R, x = t.v := by
  intro x hx
  unfold rowsOf at hx
  obtain ⟨q, hq, rfl⟩ := List.mem_map.mp hx
  obtain ⟨t, h1, _, h3⟩ := lookF ((isort_perm _).mem_iff.mp hq)
  exact ⟨t, h1, by rw [h3]; rfl⟩
theorem rowsOf_len (R : List Tr) : (rowsOf R).length = R.length := by
  unfold rowsOf
  rw [List.length_map, (isort_perm _).length_eq, List.length_map]
theorem tr_d {t : Tr} (h : t.Ok) : ∃ d, Z.toD t.v = some d ∧ Sm d 19 5100 := d_tup (row_sd h) (by show 3 ≤ 10; decide)
structure Pd (x : Vl) : Prop where
  d : ∃ d, Z.toD x = some d ∧ Sm d 20 6000
theorem It.pd {x : It} (h : x.Ok) : Pd x.v := by
  cases x with
  | ok t =>
    obtain ⟨d, h1, h2⟩ := tr_d h
    exact ⟨d, h1, h2.mono (by decide) (by decide)⟩
  | bent u => exact ⟨h.d⟩
theorem pds : ∀ {L : List Vl}, (∀ x ∈ L, Pd x) → ∃ ds, Z.toDs L = some ds ∧ ds.length = L.length ∧ ∀ d ∈ ds, Sm d 20 6000
  | [], _ => ⟨[], rfl, rfl, fun _ h => nomatch h⟩
  | x :: L, h => by
    obtain ⟨d, h1, h2⟩ := (h x (List.mem_cons_self ..)).d
    obtain ⟨ds, h3, h4, h5⟩ := pds fun y hy => h y (List.mem_cons_of_mem _ hy)
    refine ⟨d :: ds, toDs_cons h1 h3, by rw [List.length_cons, List.length_cons, h4], fun e he => ?_⟩
    rcases List.mem_cons.mp he with rfl | he
    · exact h2
    · exact h5 e he
section
variable {u : Str} (hu : u ∈ UQ)
include hu
theorem init_rows {R : List Tr} (hR : R.length ≤ 60) {X : Vl} (e5 e6 e7 : Option Vl) : ∃ f8, D_Store_init_4 [some (.obj 0), some (.str u), some X, some (.obj 1), some (.obj 2), e5, e6, e7, none] (mR u R) = some (.nx [some (.obj 0), some (.str u), some X, some (.obj 1), some (.obj 2), e5, e6, e7, f8], [.ins "Store" [("rows", .tup (rowsOf R))], .dic (Fd R), .dit (Ud u R)]) := by
  have hd : dicD (mR u R) (.obj 1) = some (Fd R) := dicD_obj rfl
  have hs : sortKD (mR u R) [.obj 1] = some ((isort (R.map Tr.q)).map .int) := by
    unfold sortKD
    simp only [hd, keysF]
    rw [if_pos (by rw [List.length_map]; omega)]
  have hlc : lcZ (gcVar 8) dYes (d2 ixK (dVar 3) (dVar 8)) [some (.obj 0), some (.str u), some X, some (.obj 1), some (.obj 2), e5, e6, e7, none] ((isort (R.map Tr.q)).map Vl.int) (mR u R) = some (rowsOf R, mR u R) := by
    have h := lcZ_map (g := gcVar 8) (de := d2 ixK (dVar 3) (dVar 8)) (env := [some (.obj 0), some (.str u), some X, some (.obj 1), some (.obj 2), e5, e6, e7, none]) (m := mR u R) (ys := (isort (R.map Tr.q)).map Vl.int) (f := fun x => match x with
        | .int q => (lookZ (Fd R) (.inl q)).getD .non
        | _ => .non) (fun x hx => by
      obtain ⟨q, hq, rfl⟩ := List.mem_map.mp hx
      obtain ⟨t, h1, h2, h3⟩ := lookF ((isort_perm _).mem_iff.mp hq)
      have ik := ixK_obj (m := mR u R) (n := 1) (ks := Fd R) (y := .int q) (k := .inl q) rfl rfl h3
      refine ⟨[some (.obj 0), some (.str u), some X, some (.obj 1), some (.obj 2), e5, e6, e7, some (.int q)], rfl, ?_⟩
      simp [ik, h3])
    rw [List.map_map] at h
    exact h
  have sz : (isort (R.map Tr.q)).length ≤ sizeLine := by
    rw [(isort_perm _).length_eq, List.length_map]
    exact le_size (by omega)
  have z9 : (rowsOf R).length ≤ sizeLine := by
    rw [rowsOf_len]
    exact le_size (by omega)
  refine ⟨none, ?_⟩
  simp [D_Store_init_4, hs, wipeE, sz, hlc, tupleF, seqD, sFldD]
  rfl
end
end
section
theorem fresh_ex {gd : List Vl → List Vl → Mem → Option (R Vl × Mem)} {xs ys : List Vl} {m m1 : Mem} {fu : Nat} {c : Str} {fs gs : List (Str × Vl)} (h : gd xs ys [] = some (.ex c fs, m1)) (hx : cloL 0 xs = true) (hy : cloL 0 ys = true) (hz : mapP (cnv [] m.length m1 fu) fs = some gs) : freshG kNone fu gd xs ys m = some (.ex c gs, m) := by
  unfold freshG freshR
  rw [hx, hy, h]
  simp only [Bool.and_self, if_true, hz]
theorem D_init : D_Store_init = dSeq D_Store_init_0 (dSeq D_Store_init_1 (dSeq D_Store_init_2 (dSeq (dFor (iSeqD (dVar 2)) (gVar 5) rowD) (dSeq D_Store_init_4 D_Store_init_5)))) := rfl
section
variable {u : Str} (hu : u ∈ UQ)
include hu
theorem goS_len : ∀ (l : List It) (R R' : List Tr), goS u R l = .inl R' → R'.length ≤ R.length + l.length
  | [], R, R', h => by
    cases h
    exact Nat.le_refl _
  | .bent x :: l, R, R', h => nomatch h
  | .ok t :: l, R, R', h => by
    have hg : goS u R (.ok t :: l) = (match bad u R t with
      | none => goS u (R ++ [t]) l
      | some e => .inr e) := rfl
    rw [hg] at h
    cases hb : bad u R t with
    | none =>
      rw [hb] at h
      have := goS_len l _ _ h
      rw [List.length_append, List.length_singleton] at this
      rw [List.length_cons]
      omega
    | some e =>
      rw [hb] at h
      cases h
theorem init_ok {l : List It} (hl : ∀ x ∈ l, x.Ok) (hz : l.length ≤ 60) :
    (∀ R', goS u [] l = .inl R' → B_Store_init [.obj 0, .str u, .tup (l.map It.v)] [.ins "Store" []] = some (.ok .non, [.ins "Store" [("rows", .tup (rowsOf R')), ("unique", .str u)], .dic (Fd R'), .dit (Ud u R')])) ∧
    (∀ e, goS u [] l = .inr e → ∃ m', B_Store_init [.obj 0, .str u, .tup (l.map It.v)] [.ins "Store" []] = some (.ex e.cls e.fs, m')) := by
  have q0 := uniq_ok hu [.ins "Store" []]
  obtain ⟨r1, r2⟩ := init_loop hu (X := .tup (l.map It.v)) l [] none none none hl (by rw [List.length_nil]; omega)
  have st : startZ 9 [.obj 0, .str u, .tup (l.map It.v)] = [some (.obj 0), some (.str u), some (.tup (l.map It.v)), none, none, none, none, none, none] := rfl
  have t0 : D_Store_init_0 [some (.obj 0), some (.str u), some (.tup (l.map It.v)), none, none, none, none, none, none] [.ins "Store" []] = some (.nx [some (.obj 0), some (.str u), some (.tup (l.map It.v)), none, none, none, none, none, none], [.ins "Store" []]) := by
    simp [D_Store_init_0, q0]
  have t1 : D_Store_init_1 [some (.obj 0), some (.str u), some (.tup (l.map It.v)), none, none, none, none, none, none] [.ins "Store" []] = some (.nx [some (.obj 0), some (.str u), some (.tup (l.map It.v)), some (.obj 1), none, none, none, none, none], [.ins "Store" [], .dic []]) := by
    simp [D_Store_init_1]
  have t2 : D_Store_init_2 [some (.obj 0), some (.str u), some (.tup (l.map It.v)), some (.obj 1), none, none, none, none, none] [.ins "Store" [], .dic []] = some (.nx [some (.obj 0), some (.str u), some (.tup (l.map It.v)), some (.obj 1), some (.obj 2), none, none, none, none], mR u []) := by
    simp [D_Store_init_2]
    rfl
  have fe : ∀ (env : Ev) (m : Mem), dVar 2 env m = some (.ok (.tup (l.map It.v)), m) → dFor (iSeqD (dVar 2)) (gVar 5) rowD env m = forL (gVar 5) rowD (l.map It.v) env m := fun env m h => by
    rw [dFor_ap]
    unfold iSeqD
    rw [h]
    rfl
  constructor
  · intro R' h
    obtain ⟨f5, f6, f7, e⟩ := r1 R' h
    have hR := goS_len hu l [] R' h
    rw [List.length_nil] at hR
    obtain ⟨f8, e4⟩ := init_rows hu (R := R') (by omega) (X := .tup (l.map It.v)) f5 f6 f7
    show bodyD 9 D_Store_init _ _ = _
    unfold bodyD
    rw [st, D_init, dSeq_ap, t0, thenS_nx, dSeq_ap, t1, thenS_nx, dSeq_ap, t2, thenS_nx, dSeq_ap, fe _ _ rfl, e, thenS_nx, dSeq_ap, e4, thenS_nx]
    simp [D_Store_init_5, sFldD, putL]
    have : (("rows" : Str) == "unique") = false := by decide +kernel
    first
      | rfl
      | (simp at this; simp [this])
  · intro e h
    obtain ⟨env', m', e1⟩ := r2 e h
    refine ⟨m', ?_⟩
    show bodyD 9 D_Store_init _ _ = _
    unfold bodyD
    rw [st, D_init, dSeq_ap, t0, thenS_nx, dSeq_ap, t1, thenS_nx, dSeq_ap, t2, thenS_nx, dSeq_ap, fe _ _ rfl, e1]
    rfl
theorem its_d {l : List It} (hl : ∀ x ∈ l, x.Ok) : ∃ ds, Z.toDs (l.map It.v) = some ds ∧ ds.length = l.length ∧ ∀ d ∈ ds, Sm d 20 6000 := by
  obtain ⟨ds, h1, h2, h3⟩ := pds (L := l.map It.v) fun x hx => by
    obtain ⟨y, hy, rfl⟩ := List.mem_map.mp hx
    exact It.pd (hl y hy)
  exact ⟨ds, h1, by rw [h2, List.length_map], h3⟩
theorem goS_mem : ∀ (l : List It) (R R' : List Tr), (∀ x ∈ l, x.Ok) → (∀ t ∈ R, t.Ok) → goS u R l = .inl R' → ∀ t ∈ R', t.Ok
  | [], R, R', _, hR, h => by
    cases h
    exact hR
  | .bent x :: l, R, R', _, _, h => nomatch h
  | .ok t :: l, R, R', hl, hR, h => by
    have hg : goS u R (.ok t :: l) = (match bad u R t with
      | none => goS u (R ++ [t]) l
      | some e => .inr e) := rfl
    rw [hg] at h
    cases hb : bad u R t with
    | none =>
      rw [hb] at h
      refine goS_mem l _ R' (fun x hx => hl x (List.mem_cons_of_mem _ hx)) (fun r hr => ?_) h
      rcases List.mem_append.mp hr with hr | hr
      · exact hR r hr
      · rw [List.mem_singleton.mp hr]
        exact hl (.ok t) (List.mem_cons_self ..)
    | some e =>
      rw [hb] at h
      cases h
theorem goS_err : ∀ (l : List It) (R : List Tr) (e : Er), (∀ x ∈ l, x.Ok) → goS u R l = .inr e → (∃ x, e = .row x ∧ Bd x) ∨ (∃ k, e = .key k ∧ 0 ≤ k ∧ k ≤ 999) ∨ ∃ c, e = .cell c ∧ (c = "a" ∨ c = "b")
  | [], R, e, _, h => nomatch h
  | .bent x :: l, R, e, hl, h => by
    cases h
    exact .inl ⟨x, rfl, hl (.bent x) (List.mem_cons_self ..)⟩
  | .ok t :: l, R, e, hl, h => by
    have hg : goS u R (.ok t :: l) = (match bad u R t with
      | none => goS u (R ++ [t]) l
      | some e => .inr e) := rfl
    rw [hg] at h
    cases hb : bad u R t with
    | none =>
      rw [hb] at h
      exact goS_err l _ e (fun x hx => hl x (List.mem_cons_of_mem _ hx)) h
    | some e0 =>
      rw [hb] at h
      cases h
      unfold bad at hb
      split at hb
      · cases hb
        have ht : t.Ok := hl (.ok t) (List.mem_cons_self ..)
        exact .inr (.inl ⟨t.q, rfl, ht.q.1, ht.q.2⟩)
      · split at hb
        · cases hb
          exact .inr (.inr ⟨"a", rfl, .inl rfl⟩)
        · split at hb
          · cases hb
            exact .inr (.inr ⟨"b", rfl, .inr rfl⟩)
          · cases hb
theorem make_ok {l : List It} (hl : ∀ x ∈ l, x.Ok) (hz : l.length ≤ 60) (m : Mem) :
    (∀ R', goS u [] l = .inl R' → n_Store_init_S1_unique (l.map It.v) [.str u] m = some (.ok (stV u R'), m)) ∧
    (∀ e, goS u [] l = .inr e → n_Store_init_S1_unique (l.map It.v) [.str u] m = some (.ex e.cls e.fs, m)) := by
  obtain ⟨i1, i2⟩ := init_ok hu hl hz
  obtain ⟨ds, d1, d2, d3⟩ := its_d hu hl
  have hx : cloL 0 (l.map It.v) = true := toDs_clo d1 0
  constructor
  · intro R' h
    have run : m_Store_init_S1_unique (l.map It.v) [.str u] [] = some (.ok (.obj 0), [.ins "Store" [("rows", .tup (rowsOf R')), ("unique", .str u)], .dic (Fd R'), .dit (Ud u R')]) := by
      have e := i1 R' h
      unfold m_Store_init_S1_unique initD
      rw [show G_Store_init (starZ 1 [.a 0, .k 0] [] (.obj ([] : Mem).length :: l.map It.v) [.str u]) ([] ++ [.ins "Store" []]) = B_Store_init [.obj 0, .str u, .tup (l.map It.v)] [.ins "Store" []] from rfl, e]
      rfl
    refine fresh_val run hx rfl ?_
    have hR := goS_mem hu l [] R' hl (fun t ht => nomatch ht) h
    obtain ⟨es, g1, g2, g3⟩ := pds (L := rowsOf R') fun x hx => by
      obtain ⟨t, ht, rfl⟩ := rowsOf_mem x hx
      exact It.pd (x := .ok t) (hR t ht)
    have ct := toDs_cnv g1 m.length [Cell.ins "Store" [("rows", .tup (rowsOf R')), ("unique", .str u)], .dic (Fd R'), .dit (Ud u R')] 28 (by have := (sm_all g3).2.1; omega)
    show (mapP (cnv [] m.length _ 29) [(("rows" : Str), Vl.tup (rowsOf R')), ("unique", Vl.str u)]).map (Vl.ins "Store") = _
    have c1 : cnv [] m.length [Cell.ins "Store" [("rows", .tup (rowsOf R')), ("unique", .str u)], .dic (Fd R'), .dit (Ud u R')] 29 (.tup (rowsOf R')) = some (.tup (rowsOf R')) := by
      show (mapO (cnv [] m.length _ 28) (rowsOf R')).map Vl.tup = _
      rw [ct]
      rfl
    have c2 : cnv [] m.length [Cell.ins "Store" [("rows", .tup (rowsOf R')), ("unique", .str u)], .dic (Fd R'), .dit (Ud u R')] 29 (.str u) = some (.str u) := rfl
    simp only [mapP, c1, c2]
    rfl
  · intro e h
    obtain ⟨m', e1⟩ := i2 e h
    have run : m_Store_init_S1_unique (l.map It.v) [.str u] [] = some (.ex e.cls e.fs, m') := by
      unfold m_Store_init_S1_unique initD
      rw [show G_Store_init (starZ 1 [.a 0, .k 0] [] (.obj ([] : Mem).length :: l.map It.v) [.str u]) ([] ++ [.ins "Store" []]) = B_Store_init [.obj 0, .str u, .tup (l.map It.v)] [.ins "Store" []] from rfl, e1]
    refine fresh_ex run hx rfl ?_
    rcases goS_err hu l [] e hl h with ⟨x, rfl, hb⟩ | ⟨k, rfl, _⟩ | ⟨c, rfl, _⟩
    · obtain ⟨d, f1, f2⟩ := hb.d
      have c1 := toD_cnv f1 m.length m' 30 (by have := f2.dep; omega)
      show mapP _ [(("row" : Str), x)] = _
      simp only [mapP, c1]
      rfl
    · rfl
    · rfl
theorem of_ok {l : List It} (hl : ∀ x ∈ l, x.Ok) (hz : l.length ≤ 60) {m : Mem} {x : Vl} (hx : seqD m x = some (l.map It.v)) :
    (∀ R', goS u [] l = .inl R' → G_Store_of [x, .str u] m = some (.ok (stV u R'), m)) ∧
    (∀ e, goS u [] l = .inr e → G_Store_of [x, .str u] m = some (.ex e.cls e.fs, m)) := by
  obtain ⟨h1, h2⟩ := make_ok hu hl hz m
  have z : (l.map It.v).length < sizeLine := by
    rw [List.length_map]
    exact Nat.lt_of_le_of_lt hz (by decide)
  rw [List.length_map] at z
  constructor
  · intro R' h
    have e := h1 R' h
    show bodyD 2 D_Store_of [x, .str u] m = _
    simp [bodyD, startZ, D_Store_of, hx, z, e]
  · intro e0 h
    have e := h2 e0 h
    show bodyD 2 D_Store_of [x, .str u] m = _
    simp [bodyD, startZ, D_Store_of, hx, z, e]
end
end
section
theorem goS_ok (u : Str) (R : List Tr) (t : Tr) (l : List It) : goS u R (.ok t :: l) = (match bad u R t with
    | none => goS u (R ++ [t]) l
    | some e => .inr e) := rfl
theorem goS_app {u : Str} : ∀ (l k : List It) (R : List Tr), goS u R (l ++ k) = (match goS u R l with
    | .inl R' => goS u R' k
    | .inr e => .inr e)
  | [], k, R => rfl
  | .bent x :: l, k, R => rfl
  | .ok t :: l, k, R => by
    rw [List.cons_append, goS_ok, goS_ok]
    cases bad u R t with
    | none => exact goS_app l k _
    | some e => rfl
theorem lookF_nd : ∀ {R : List Tr}, (R.map Tr.q).Nodup → R.map (fun t => (lookZ (Fd R) (.inl t.q)).getD .non) = R.map Tr.v := by
  intro R hn
  refine List.map_congr_left fun t ht => ?_
  obtain ⟨t', h1, h2, h3⟩ := lookF (R := R) (q := t.q) (List.mem_map.mpr ⟨t, ht, rfl⟩)
  have e : t' = t := by
    have inj : ∀ {R : List Tr}, (R.map Tr.q).Nodup → ∀ a ∈ R, ∀ b ∈ R, a.q = b.q → a = b := by
      intro R
      induction R with
      | nil => exact fun _ a ha => nomatch ha
      | cons r R ih =>
        intro hn a ha b hb e
        rw [List.map_cons, List.nodup_cons] at hn
        rcases List.mem_cons.mp ha with ha1 | ha1
        · rcases List.mem_cons.mp hb with hb1 | hb1
          · rw [ha1, hb1]
          · rw [ha1] at e
            exact absurd (List.mem_map.mpr ⟨b, hb1, e.symm⟩) hn.1
        · rcases List.mem_cons.mp hb with hb1 | hb1
          · rw [hb1] at e
            exact absurd (List.mem_map.mpr ⟨a, ha1, e⟩) hn.1
          · exact ih hn.2 a ha1 b hb1 e
    exact inj hn t' h1 t ht h2
  rw [h3, e]
  rfl
theorem tup3_tr {t : Tr} (h : t.Ok) : tup3 t.v = some [t.q, t.a, t.b] := by
  have h1 := h.q
  have h2 := h.a
  have h3 := h.b
  show (if (decide (0 ≤ t.q ∧ t.q < 1000) && (decide (0 ≤ t.a ∧ t.a < 1000) && decide (0 ≤ t.b ∧ t.b < 1000))) = true then some [t.q, t.a, t.b] else none) = _
  rw [if_pos (by
    rw [Bool.and_eq_true, Bool.and_eq_true, decide_eq_true_eq, decide_eq_true_eq, decide_eq_true_eq]
    omega)]
theorem code_tr {t : Tr} (h : t.Ok) : code3 t.v = t.q * 1000000 + t.a * 1000 + t.b := by
  unfold code3
  rw [tup3_tr h]
  exact code_three _ _ _
theorem rows_sorted {R : List Tr} (hn : (R.map Tr.q).Nodup) (hR : ∀ t ∈ R, t.Ok) : rowsOf R = usort (R.map Tr.v) := by
  refine usort_eq (fun x hx => ?_) ?_ ?_
  · obtain ⟨t, ht, rfl⟩ := List.mem_map.mp hx
    rw [tup3_tr (hR t ht)]
    rfl
  · unfold rowsOf
    have h := (isort_perm (R.map Tr.q)).map fun q => (lookZ (Fd R) (.inl q)).getD Vl.non
    rw [List.map_map] at h
    have e := lookF_nd hn
    refine h.trans ?_
    rw [← e]
    exact .refl _
  · unfold rowsOf
    rw [List.pairwise_map]
    refine (isort_pw (R.map Tr.q)).imp_of_mem fun {a b} ha hb h => ?_
    obtain ⟨t, t1, t2, t3⟩ := lookF ((isort_perm _).mem_iff.mp ha)
    obtain ⟨s, s1, s2, s3⟩ := lookF ((isort_perm _).mem_iff.mp hb)
    rw [t3, s3]
    show code3 t.v ≤ code3 s.v
    have ht := hR t t1
    have hs := hR s s1
    rw [code_tr ht, code_tr hs]
    by_cases e : a = b
    · subst e
      rw [t3] at s3
      injection s3 with s3
      have s3 : Vl.tup [.int t.q, .int t.a, .int t.b] = .tup [.int s.q, .int s.a, .int s.b] := s3
      injection s3 with s3
      simp only [List.cons.injEq, Vl.int.injEq, and_true] at s3
      omega
    · have h1 := ht.a
      have h2 := ht.b
      have h3 := hs.a
      have h4 := hs.b
      omega
def wr (u : Str) (R : List Tr) : It → Option Er
  | .ok t => bad u R t
  | .bent x => some (.row x)
def ov : Option Er → Vl
  | none => .non
  | some e => e.v
structure Ds (u : Str) (R : List Tr) : Prop where
  q : (R.map Tr.q).Nodup
  a : hasA u = true → (R.map Tr.a).Nodup
  b : hasB u = true → (R.map Tr.b).Nodup
theorem any_mem (R : List Tr) (f : Tr → Int) (x : Int) : (R.any fun r => decide (f r = x)) = true ↔ x ∈ R.map f := by
  rw [List.any_eq_true]
  constructor
  · rintro ⟨r, hr, h⟩
    exact List.mem_map.mpr ⟨r, hr, of_decide_eq_true h⟩
  · intro h
    obtain ⟨r, hr, h⟩ := List.mem_map.mp h
    exact ⟨r, hr, decide_eq_true h⟩
theorem bad_none {u : Str} {R : List Tr} {t : Tr} : bad u R t = none ↔ t.q ∉ R.map Tr.q ∧ (hasA u = true → t.a ∉ R.map Tr.a) ∧ (hasB u = true → t.b ∉ R.map Tr.b) := by
  unfold bad
  rw [← any_mem, ← any_mem, ← any_mem]
  cases (R.any fun r => decide (r.q = t.q)) <;> cases hasA u <;> cases (R.any fun r => decide (r.a = t.a)) <;> cases hasB u <;> cases (R.any fun r => decide (r.b = t.b)) <;> simp
theorem nodup_snoc {l : List Int} {x : Int} : (l ++ [x]).Nodup ↔ l.Nodup ∧ x ∉ l := by
  rw [List.nodup_append]
  constructor
  · rintro ⟨h1, _, h3⟩
    exact ⟨h1, fun h => h3 x h x (List.mem_singleton.mpr rfl) rfl⟩
  · rintro ⟨h1, h2⟩
    exact ⟨h1, by simp, fun a ha b hb e => by
      rw [List.mem_singleton.mp hb] at e
      exact h2 (e ▸ ha)⟩
theorem ds_snoc {u : Str} {R : List Tr} {t : Tr} : Ds u (R ++ [t]) ↔ Ds u R ∧ bad u R t = none := by
  rw [bad_none]
  have e : ∀ f : Tr → Int, (R ++ [t]).map f = R.map f ++ [f t] := fun f => by
    rw [List.map_append]
    rfl
  constructor
  · intro h
    have h1 := h.q
    have h2 := h.a
    have h3 := h.b
    rw [e, nodup_snoc] at h1
    simp only [e, nodup_snoc] at h2 h3
    exact ⟨⟨h1.1, fun z => (h2 z).1, fun z => (h3 z).1⟩, h1.2, fun z => (h2 z).2, fun z => (h3 z).2⟩
  · rintro ⟨h, h1, h2, h3⟩
    refine ⟨?_, fun z => ?_, fun z => ?_⟩
    · rw [e, nodup_snoc]
      exact ⟨h.q, h1⟩
    · rw [e, nodup_snoc]
      exact ⟨h.a z, h2 z⟩
    · rw [e, nodup_snoc]
      exact ⟨h.b z, h3 z⟩
theorem Ds.perm {u : Str} {R S : List Tr} (h : Ds u R) (p : S.Perm R) : Ds u S := ⟨((p.map Tr.q).nodup_iff).mpr h.q, fun z => ((p.map Tr.a).nodup_iff).mpr (h.a z), fun z => ((p.map Tr.b).nodup_iff).mpr (h.b z)⟩
theorem Ds.sub {u : Str} {R S : List Tr} (h : Ds u R) (p : S.Sublist R) : Ds u S := ⟨h.q.sublist (p.map Tr.q), fun z => (h.a z).sublist (p.map Tr.a), fun z => (h.b z).sublist (p.map Tr.b)⟩
theorem goS_all {u : Str} : ∀ (T R : List Tr), Ds u (R ++ T) → goS u R (T.map It.ok) = .inl (R ++ T)
  | [], R, _ => by
    rw [List.append_nil]
    rfl
  | t :: T, R, h => by
    have e : R ++ t :: T = (R ++ [t]) ++ T := by simp
    rw [e] at h
    have h2 := ds_snoc.mp (h.sub (List.sublist_append_left _ _))
    rw [List.map_cons, goS_ok, h2.2]
    show goS u (R ++ [t]) (T.map It.ok) = _
    rw [goS_all T (R ++ [t]) h, e]
theorem goS_ds {u : Str} {R : List Tr} (h : Ds u R) : goS u [] (R.map It.ok) = .inl R := goS_all R [] h
theorem bad_perm {u : Str} {R S : List Tr} (p : S.Perm R) (t : Tr) : bad u S t = bad u R t := by
  have e : ∀ f : Tr → Int, (S.any fun r => decide (f r = t.q)) = R.any fun r => decide (f r = t.q) := fun f => p.any_eq
  unfold bad
  rw [p.any_eq (f := fun r => decide (r.q = t.q)), p.any_eq (f := fun r => decide (r.a = t.a)), p.any_eq (f := fun r => decide (r.b = t.b))]
theorem wr_perm {u : Str} {R S : List Tr} (p : S.Perm R) (x : It) : wr u S x = wr u R x := by
  cases x with
  | ok t => exact bad_perm p t
  | bent y => rfl
def sortR (R : List Tr) : List Tr := R.mergeSort fun s t => decide (code3 s.v ≤ code3 t.v)
theorem sortR_perm (R : List Tr) : (sortR R).Perm R := List.mergeSort_perm R _
theorem some3 {R : List Tr} (h : ∀ t ∈ R, t.Ok) : ∀ x ∈ R.map Tr.v, (tup3 x).isSome = true := fun x hx => by
  obtain ⟨t, ht, rfl⟩ := List.mem_map.mp hx
  rw [tup3_tr (h t ht)]
  rfl
theorem sortR_v {R : List Tr} (h : ∀ t ∈ R, t.Ok) : (sortR R).map Tr.v = usort (R.map Tr.v) := by
  refine usort_eq (some3 h) ((sortR_perm R).map Tr.v) ?_
  rw [List.pairwise_map]
  have z := List.pairwise_mergeSort (le := fun s t : Tr => decide (code3 s.v ≤ code3 t.v)) (fun a b c h1 h2 => by
    rw [decide_eq_true_eq] at *
    omega) (fun a b => by
    rw [Bool.or_eq_true, decide_eq_true_eq, decide_eq_true_eq]
    omega) R
  exact z.imp fun h => of_decide_eq_true h
theorem usort_perm_eq {R S : List Tr} (h : ∀ t ∈ R, t.Ok) (p : S.Perm R) : usort (S.map Tr.v) = usort (R.map Tr.v) := usort_eq (some3 h) ((usort_perm _).trans (p.map Tr.v)) (usort_pw _)
def sV (u : Str) (R : List Tr) : Vl := .ins "Store" [("rows", .tup ((sortR R).map Tr.v)), ("unique", .str u)]
theorem stV_eq {u : Str} {R : List Tr} (h : ∀ t ∈ R, t.Ok) (d : Ds u R) : stV u R = sV u R := by
  unfold stV sV
  rw [rows_sorted d.q h, sortR_v h]
theorem sV_perm {u : Str} {R S : List Tr} (h : ∀ t ∈ R, t.Ok) (p : S.Perm R) : sV u S = sV u R := by
  unfold sV
  rw [sortR_v h, sortR_v fun t ht => h t (p.mem_iff.mp ht), usort_perm_eq h p]
end
section
theorem flats_ints : ∀ ns : List Int, flatLs (ns.map Vl.int) = some (ns.map V.int)
  | [] => rfl
  | n :: ns => by
    show (match flatL (.int n) with
      | some v => (match flatLs (ns.map Vl.int) with
        | some vs => some (v :: vs)
        | none => none)
      | none => none) = _
    rw [flats_ints ns]
    rfl
theorem inV_ints (x : Int) (ns : List Int) : inV (.int x) (ns.map V.int) = ns.any fun y => decide (y = x) := by
  unfold inV
  rw [List.any_map]
  congr 1
theorem in_ints (neg : Bool) (x : Int) (ns : List Int) (m : Mem) : inA neg (.int x) (.lst (ns.map Vl.int)) m = some (.bl (if neg = true then !(ns.any fun y => decide (y = x)) else ns.any fun y => decide (y = x)), m) := by
  have e : inS neg (.int x) (.lst (ns.map Vl.int)) m = some (.bl (if neg = true then !(ns.any fun y => decide (y = x)) else ns.any fun y => decide (y = x)), m) := by
    have h1 : flatL (.int x) = some (.int x) := rfl
    have h2 : seqD m (.lst (ns.map Vl.int)) = some (ns.map Vl.int) := rfl
    unfold inS
    rw [h2]
    simp only [h1, flats_ints, inV_ints]
  unfold inA orF
  rw [e]
theorem lcW_map {g : DGc} {de : DE} {env : Ev} {n : Nat} {m : Mem} {ys : List Vl} {f : Vl → Vl} (hm : m[n]? = some (.lst ys)) (h : ∀ x ∈ ys, ∃ env1, g x env = some env1 ∧ de env1 m = some (.ok (f x), m)) :
    ∀ k i, k + i = ys.length → lcW g dYes de env (cellW n) k i m = some ((ys.drop i).map f, m)
  | 0, i, hk => by
    unfold lcW cellW
    rw [hm]
    simp only [show ys[i]? = none from List.getElem?_eq_none_iff.mpr (by omega)]
    rw [List.drop_of_length_le (by omega)]
    rfl
  | k + 1, i, hk => by
    have hi : i < ys.length := by omega
    obtain ⟨env1, h1, h3⟩ := h ys[i] (List.getElem_mem hi)
    have ih := lcW_map hm h k (i + 1) (by omega)
    unfold lcW
    have hw : cellW n i m = some (some ys[i]) := by
      unfold cellW
      rw [hm]
      simp only [List.getElem?_eq_getElem hi]
    have hy : dYes env1 m = some (.ok true, m) := rfl
    rw [hw]
    rw [List.drop_eq_getElem_cons hi]
    simp only [h1, hy, h3, ih, if_true, List.map_cons]
theorem col_of {env env0 : Ev} {v w p : Nat} {m : Mem} {Ts : List Tr} (i : Int) (f : Tr → Int) (hf : ∀ (t : Tr) m, ixA t.v (.int i) m = some (.int (f t), m)) (hv : dVar v env m = some (.ok (.obj p), m)) (hw0 : wipeE env [w] = env0) (hg : ∀ x, ∃ env1, gcVar w x env0 = some env1 ∧ dVar w env1 m = some (.ok x, m)) (hp : m[p]? = some (.lst (Ts.map Tr.v))) (hl : Ts.length ≤ 1000) : dFrz (dLcW (wLst (dVar v)) (gcVar w) dYes (d2 ixA (dVar w) (dC (.int i))) [w]) env m = some (.ok (.lst ((Ts.map f).map Vl.int)), m) := by
  have h := lcW_map (g := gcVar w) (de := d2 ixA (dVar w) (dC (.int i))) (env := env0) hp (f := fun x => match x with
      | .tup [.int a, .int b, .int c] => .int (f ⟨a, b, c⟩)
      | _ => .non) (fun x hx => by
    obtain ⟨t, ht, rfl⟩ := List.mem_map.mp hx
    obtain ⟨env1, g1, g2⟩ := hg t.v
    refine ⟨env1, g1, ?_⟩
    rw [d2_ap, g2, bindR_ok, dC_ap, bindR_ok, hf]
    rfl) (Ts.map Tr.v).length 0 rfl
  rw [List.drop_zero, List.map_map] at h
  have hk : wkOf m (.obj p) = some (cellW p, (Ts.map Tr.v).length) := by
    unfold wkOf
    simp only [hp]
  have sz : (Ts.map Tr.v).length ≤ sizeLine := by
    rw [List.length_map]
    exact le_size hl
  rw [dFrz_ap, dLcW_ap, wLst_ap, hv, bindR_ok, hk]
  dsimp only
  rw [bindR_ok, if_pos sz, hw0, h]
  show bindR (some (R.ok _, m)) _ = _
  rw [bindR_ok]
  show some (R.ok (Vl.lst _), m) = _
  congr 3
  rw [List.map_map]
  rfl
theorem trs_d {Ts : List Tr} (h : ∀ t ∈ Ts, t.Ok) : ∃ ds, Z.toDs (Ts.map Tr.v) = some ds ∧ ds.length = Ts.length ∧ ∀ d ∈ ds, Sm d 20 6000 := by
  obtain ⟨ds, h1, h2, h3⟩ := pds (L := Ts.map Tr.v) fun x hx => by
    obtain ⟨t, ht, rfl⟩ := List.mem_map.mp hx
    exact It.pd (x := .ok t) (h t ht)
  exact ⟨ds, h1, by rw [h2, List.length_map], h3⟩
theorem cell_nil {L : List Vl} {ds : List PyData} (h1 : Z.toDs L = some ds) (h2 : ds.length = L.length) (h3 : ∀ d ∈ ds, Sm d 20 6000) {m : Mem} {p : Nat} (hp : m[p]? = some (.lst L)) : neF (.obj p) (.lst []) m = some (.bl (!L.isEmpty), m) := by
  have hm : Z.toDm m (.obj p) = some (.list ds) := by
    unfold Z.toDm
    simp only [hp, h1]
  have z := (eq_sm (x := .obj p) (y := .lst []) (m := m) (.inl rfl) hm rfl (sm_list h3) (sm_list (ds := []) (k := 1) (n := 440) fun d hd => nomatch hd) (by decide) (by decide)).2
  have e : PyData.eqv (.list ds) (.list []) = L.isEmpty := by
    cases L with
    | nil =>
      cases h1
      rfl
    | cons x L =>
      cases ds with
      | nil => cases h2
      | cons d ds => rfl
  rw [e] at z
  exact z
section
variable {ns : List Int} {n p : Nat} {m : Mem} {u : Str} {Ts : List Tr}
theorem lr0_ok (hb : Bag ns n m) (tn : Int) (e1 e5 e6 e7 : Option Vl) : ∃ (t : Tr) (m' : Mem), t.Ok ∧ D_law_rows_1_0 [some (.obj n), e1, some (.str u), some (.obj p), some (.int tn), e5, e6, e7] m = some (.nx [some (.obj n), e1, some (.str u), some (.obj p), some (.int tn), some t.v, e6, e7], m') ∧ Fr ns n m m' := by
  obtain ⟨q, m1, q0, q1, c1, F1⟩ := draw_i hb 1000 (by decide) (by decide)
  obtain ⟨a, m2, a0, a1, c2, F2⟩ := cell_i F1.bag
  obtain ⟨b, m3, b0, b1, c3, F3⟩ := cell_i F2.bag
  have z3 : (3 : Nat) ≤ sizeLine := le_size (by decide)
  have q1 : q ≤ 999 := by omega
  exact ⟨⟨q, a, b⟩, m3, ⟨⟨q0, q1⟩, ⟨a0, a1⟩, ⟨b0, b1⟩⟩, by simp [D_law_rows_1_0, c1, c2, c3, z3, Tr.v], (F1.trans F2).trans F3⟩
theorem lr1_ok (hb : Bag ns n m) (hpn : p ≠ n) (hp : m[p]? = some (.lst (Ts.map Tr.v))) (hT : ∀ t ∈ Ts, t.Ok) {t : Tr} (ht : t.Ok) (tn : Int) (e1 e6 e7 : Option Vl) : ∃ (t' : Tr) (m' : Mem), t'.Ok ∧ D_law_rows_1_1 [some (.obj n), e1, some (.str u), some (.obj p), some (.int tn), some t.v, e6, e7] m = some (.nx [some (.obj n), e1, some (.str u), some (.obj p), some (.int tn), some t'.v, e6, e7], m') ∧ Fr ns n m m' := by
  by_cases h1 : 0 < tn
  · obtain ⟨z, m1, z0, z1, c1, F1⟩ := draw_i hb 4 (by decide) (by decide)
    by_cases h2 : z = 0
    · have hp1 := F1.at hp hpn
      obtain ⟨ds, g1, g2, g3⟩ := trs_d hT
      have hne := cell_nil g1 (by rw [g2, List.length_map]) g3 hp1
      cases Ts with
      | nil =>
        have hne : neF (.obj p) (.lst []) m1 = some (.bl false, m1) := hne
        exact ⟨t, m1, ht, by simp [D_law_rows_1_1, D_law_rows_1_1_0, h1, c1, h2, hne], F1⟩
      | cons r Ts =>
        have hr : r.Ok := hT r (List.mem_cons_self ..)
        have hne : neF (.obj p) (.lst []) m1 = some (.bl true, m1) := hne
        obtain ⟨q, m2, q0, q1, c2, F2⟩ := cell_i F1.bag
        have hp2 := F2.at hp1 hpn
        have i0 : ixA (.obj p) (.int 0) m2 = some (r.v, m2) := ixA_obj hp2 (atI_of (by decide) rfl)
        have i1 : ∀ m, ixA r.v (.int 1) m = some (.int r.a, m) := fun m => ix1 m
        have i2 : ∀ m, ixA t.v (.int 2) m = some (.int t.b, m) := fun m => ix2 m
        have z3 : (3 : Nat) ≤ sizeLine := le_size (by decide)
        exact ⟨⟨q, r.a, t.b⟩, m2, ⟨⟨q0, q1⟩, hr.a, ht.b⟩, by simp [D_law_rows_1_1, D_law_rows_1_1_0, h1, c1, h2, hne, c2, i0, ix1, ix2, z3, Tr.v], F1.trans F2⟩
    · exact ⟨t, m1, ht, by simp [D_law_rows_1_1, h1, c1, h2], F1⟩
  · exact ⟨t, m, ht, by simp [D_law_rows_1_1, h1], Fr.refl hb⟩
theorem any_not {R : List Tr} {f : Tr → Int} {x : Int} (h : ((R.map f).any fun y => decide (y = x)) = false) : x ∉ R.map f := fun hm => by
  have : ((R.map f).any fun y => decide (y = x)) = true := List.any_eq_true.mpr ⟨x, hm, decide_eq_true rfl⟩
  rw [h] at this
  cases this
theorem lr2_ok (hp : m[p]? = some (.lst (Ts.map Tr.v))) (hl : Ts.length ≤ 100) {t : Tr} (tn : Int) (e1 e6 e7 : Option Vl) : ∃ k : Bool, (k = true → t.q ∉ Ts.map Tr.q) ∧ D_law_rows_1_2 [some (.obj n), e1, some (.str u), some (.obj p), some (.int tn), some t.v, e6, e7] m = some (.nx [some (.obj n), e1, some (.str u), some (.obj p), some (.int tn), some t.v, some (.bl k), e7], m) := by
  have c := col_of (env := [some (.obj n), e1, some (.str u), some (.obj p), some (.int tn), some t.v, e6, e7]) (env0 := [some (.obj n), e1, some (.str u), some (.obj p), some (.int tn), some t.v, e6, none]) (v := 3) (w := 7) 0 Tr.q (fun t m => ix0 m) rfl rfl (fun x => ⟨[some (.obj n), e1, some (.str u), some (.obj p), some (.int tn), some t.v, e6, some x], rfl, rfl⟩) hp (by omega)
  have i := in_ints true t.q (Ts.map Tr.q) m
  have ix : ∀ m, ixA t.v (.int 0) m = some (.int t.q, m) := fun m => ix0 m
  refine ⟨!((Ts.map Tr.q).any fun y => decide (y = t.q)), fun h => any_not (by simpa using h), ?_⟩
  show dAsg 6 (d2 (inA true) (d2 ixA (dVar 5) (dC (.int 0))) (dFrz (dLcW (wLst (dVar 3)) (gcVar 7) dYes (d2 ixA (dVar 7) (dC (.int 0))) [7]))) [some (.obj n), e1, some (.str u), some (.obj p), some (.int tn), some t.v, e6, e7] m = _
  simp only [dAsg_ap, d2_ap, dVar_s, dVar_z, bindR_ok, dC_ap, ix, okR_s, c, i, bindS_ok, if_true]
  rfl
theorem lr3_ok (hu : u ∈ UQ) (hp : m[p]? = some (.lst (Ts.map Tr.v))) (hl : Ts.length ≤ 100) {t : Tr} (tn : Int) (k : Bool) (e1 e7 : Option Vl) : ∃ k' : Bool, (k' = true → k = true ∧ (hasA u = true → t.a ∉ Ts.map Tr.a)) ∧ D_law_rows_1_3 [some (.obj n), e1, some (.str u), some (.obj p), some (.int tn), some t.v, some (.bl k), e7] m = some (.nx [some (.obj n), e1, some (.str u), some (.obj p), some (.int tn), some t.v, some (.bl k'), e7], m) := by
  have c := col_of (env := [some (.obj n), e1, some (.str u), some (.obj p), some (.int tn), some t.v, some (.bl k), e7]) (env0 := [some (.obj n), e1, some (.str u), some (.obj p), some (.int tn), some t.v, some (.bl k), none]) (v := 3) (w := 7) 1 Tr.a (fun t m => ix1 m) rfl rfl (fun x => ⟨[some (.obj n), e1, some (.str u), some (.obj p), some (.int tn), some t.v, some (.bl k), some x], rfl, rfl⟩) hp (by omega)
  have i := in_ints false t.a (Ts.map Tr.a) m
  have ix : ∀ m, ixA t.v (.int 1) m = some (.int t.a, m) := fun m => ix1 m
  have ia := in_a u hu m
  have e : D_law_rows_1_3 = dIfS (tAnd2 (b2 (inA false) (dC (.str "a")) (dVar 2)) (b2 (inA false) (d2 ixA (dVar 5) (dC (.int 1))) (dFrz (dLcW (wLst (dVar 3)) (gcVar 7) dYes (d2 ixA (dVar 7) (dC (.int 1))) [7])))) D_law_rows_1_3_0 dNil := rfl
  rw [e]
  cases hA : hasA u with
  | false =>
    rw [hA] at ia
    exact ⟨k, fun h => ⟨h, (fun z => nomatch z)⟩, by simp [ia]⟩
  | true =>
    rw [hA] at ia
    cases hB : ((Ts.map Tr.a).any fun y => decide (y = t.a)) with
    | false =>
      rw [hB] at i
      refine ⟨k, fun h => ⟨h, fun _ => any_not hB⟩, ?_⟩
      simp only [dIfS_ap, tAnd2_ap, b2_ap, d2_ap, dVar_s, dVar_z, bindR_ok, dC_ap, ix, okR_s, c, i, ia, bindS_ok, if_true, Bool.false_eq_true, if_false, dNil_ap]
    | true =>
      rw [hB] at i
      refine ⟨false, (fun h => nomatch h), ?_⟩
      simp only [dIfS_ap, tAnd2_ap, b2_ap, d2_ap, dVar_s, dVar_z, bindR_ok, dC_ap, ix, okR_s, c, i, ia, bindS_ok, if_true, Bool.false_eq_true, if_false]
      rfl
theorem lr4_ok (hu : u ∈ UQ) (hp : m[p]? = some (.lst (Ts.map Tr.v))) (hl : Ts.length ≤ 100) {t : Tr} (tn : Int) (k : Bool) (e1 e7 : Option Vl) : ∃ k' : Bool, (k' = true → k = true ∧ (hasB u = true → t.b ∉ Ts.map Tr.b)) ∧ D_law_rows_1_4 [some (.obj n), e1, some (.str u), some (.obj p), some (.int tn), some t.v, some (.bl k), e7] m = some (.nx [some (.obj n), e1, some (.str u), some (.obj p), some (.int tn), some t.v, some (.bl k'), e7], m) := by
  have c := col_of (env := [some (.obj n), e1, some (.str u), some (.obj p), some (.int tn), some t.v, some (.bl k), e7]) (env0 := [some (.obj n), e1, some (.str u), some (.obj p), some (.int tn), some t.v, some (.bl k), none]) (v := 3) (w := 7) 2 Tr.b (fun t m => ix2 m) rfl rfl (fun x => ⟨[some (.obj n), e1, some (.str u), some (.obj p), some (.int tn), some t.v, some (.bl k), some x], rfl, rfl⟩) hp (by omega)
  have i := in_ints false t.b (Ts.map Tr.b) m
  have ix : ∀ m, ixA t.v (.int 2) m = some (.int t.b, m) := fun m => ix2 m
  have ia := in_b u hu m
  have e : D_law_rows_1_4 = dIfS (tAnd2 (b2 (inA false) (dC (.str "b")) (dVar 2)) (b2 (inA false) (d2 ixA (dVar 5) (dC (.int 2))) (dFrz (dLcW (wLst (dVar 3)) (gcVar 7) dYes (d2 ixA (dVar 7) (dC (.int 2))) [7])))) D_law_rows_1_4_0 dNil := rfl
  rw [e]
  cases hA : hasB u with
  | false =>
    rw [hA] at ia
    exact ⟨k, fun h => ⟨h, (fun z => nomatch z)⟩, by simp [ia]⟩
  | true =>
    rw [hA] at ia
    cases hB : ((Ts.map Tr.b).any fun y => decide (y = t.b)) with
    | false =>
      rw [hB] at i
      refine ⟨k, fun h => ⟨h, fun _ => any_not hB⟩, ?_⟩
      simp only [dIfS_ap, tAnd2_ap, b2_ap, d2_ap, dVar_s, dVar_z, bindR_ok, dC_ap, ix, okR_s, c, i, ia, bindS_ok, if_true, Bool.false_eq_true, if_false, dNil_ap]
    | true =>
      rw [hB] at i
      refine ⟨false, (fun h => nomatch h), ?_⟩
      simp only [dIfS_ap, tAnd2_ap, b2_ap, d2_ap, dVar_s, dVar_z, bindR_ok, dC_ap, ix, okR_s, c, i, ia, bindS_ok, if_true, Bool.false_eq_true, if_false]
      rfl
theorem lr5_ok (hb : Bag ns n m) (hpn : p ≠ n) (hp : m[p]? = some (.lst (Ts.map Tr.v))) (hl : Ts.length ≤ 100) (hT : ∀ t ∈ Ts, t.Ok) {t : Tr} (ht : t.Ok) (tn : Int) (k : Bool) (e1 e7 : Option Vl) : ∃ (Ts' : List Tr) (m' : Mem), D_law_rows_1_5 [some (.obj n), e1, some (.str u), some (.obj p), some (.int tn), some t.v, some (.bl k), e7] m = some (.nx [some (.obj n), e1, some (.str u), some (.obj p), some (.int tn), some t.v, some (.bl k), e7], m') ∧ m'[p]? = some (.lst (Ts'.map Tr.v)) ∧ (∀ t ∈ Ts', t.Ok) ∧ Ts'.length ≤ Ts.length + 1 ∧ (Ts' = Ts ∨ k = true ∧ Ts' = Ts ++ [t]) ∧ Fp ns n p m m' := by
  cases k with
  | false => exact ⟨Ts, m, by simp [D_law_rows_1_5], hp, hT, by omega, .inl rfl, (Fr.refl hb).p p⟩
  | true =>
    have a := lstM_z hp (app_i (Ts.map Tr.v) t.v (by rw [List.length_map]; omega))
    refine ⟨Ts ++ [t], m.set p (.lst ((Ts ++ [t]).map Tr.v)), ?_, get_set hp, fun r hr => ?_, by rw [List.length_append]; exact Nat.le_refl _, .inr ⟨rfl, rfl⟩, ((Fr.refl hb).p p).set hpn _⟩
    · simp [D_law_rows_1_5, D_law_rows_1_5_0, tyM_obj hp, a]
    · rcases List.mem_append.mp hr with hr | hr
      · exact hT r hr
      · rw [List.mem_singleton.mp hr]
        exact ht
def lrD : DS := dSeq D_law_rows_1_0 (dSeq D_law_rows_1_1 (dSeq D_law_rows_1_2 (dSeq D_law_rows_1_3 (dSeq D_law_rows_1_4 D_law_rows_1_5))))
theorem lr_step (hu : u ∈ UQ) (hb : Bag ns n m) (hpn : p ≠ n) (hp : m[p]? = some (.lst (Ts.map Tr.v))) (hl : Ts.length ≤ 100) (hT : ∀ t ∈ Ts, t.Ok) (tn : Int) (e1 e5 e6 e7 : Option Vl) : ∃ (Ts' : List Tr) (f5 f6 : Option Vl) (m' : Mem), lrD [some (.obj n), e1, some (.str u), some (.obj p), some (.int tn), e5, e6, e7] m = some (.nx [some (.obj n), e1, some (.str u), some (.obj p), some (.int tn), f5, f6, e7], m') ∧ m'[p]? = some (.lst (Ts'.map Tr.v)) ∧ (∀ t ∈ Ts', t.Ok) ∧ Ts'.length ≤ Ts.length + 1 ∧ (Ds u Ts → Ds u Ts') ∧ Fp ns n p m m' := by
  obtain ⟨t0, m1, h0, s0, F0⟩ := lr0_ok (u := u) (p := p) hb tn (e1) (e5) (e6) (e7)
  have hp1 := F0.at hp hpn
  obtain ⟨t, m2, ht, s1, F1⟩ := lr1_ok (u := u) F0.bag hpn hp1 hT h0 tn (e1) (e6) (e7)
  have hp2 := F1.at hp1 hpn
  obtain ⟨k2, g2, s2⟩ := lr2_ok (u := u) (n := n) hp2 hl (t := t) tn (e1) (e6) (e7)
  obtain ⟨k3, g3, s3⟩ := lr3_ok (n := n) hu hp2 hl (t := t) tn k2 (e1) (e7)
  obtain ⟨k4, g4, s4⟩ := lr4_ok (n := n) hu hp2 hl (t := t) tn k3 (e1) (e7)
  obtain ⟨Ts', m5, s5, r1, r2, r3, r5, r4⟩ := lr5_ok (u := u) F1.bag hpn hp2 hl hT ht tn k4 (e1) (e7)
  refine ⟨Ts', some t.v, some (.bl k4), m5, ?_, r1, r2, r3, fun d => ?_, ((F0.trans F1).p p).trans r4⟩
  · unfold lrD
    rw [dSeq_ap, s0, thenS_nx, dSeq_ap, s1, thenS_nx, dSeq_ap, s2, thenS_nx, dSeq_ap, s3, thenS_nx, dSeq_ap, s4, thenS_nx, s5]
  · rcases r5 with rfl | ⟨hk, rfl⟩
    · exact d
    · obtain ⟨hk3, hb4⟩ := g4 hk
      obtain ⟨hk2, ha3⟩ := g3 hk3
      exact ds_snoc.mpr ⟨d, bad_none.mpr ⟨g2 hk2, ha3, hb4⟩⟩
end
theorem lr_loop {ns : List Int} {n p : Nat} {u : Str} (hu : u ∈ UQ) (hpn : p ≠ n) (e1 e7 : Option Vl) : ∀ (xs : List Vl) (Ts : List Tr) (m : Mem) (e4 e5 e6 : Option Vl), (∀ x ∈ xs, ∃ i, x = Vl.int i) → Bag ns n m → m[p]? = some (.lst (Ts.map Tr.v)) → Ts.length + xs.length ≤ 100 → (∀ t ∈ Ts, t.Ok) → ∃ (Ts' : List Tr) (f4 f5 f6 : Option Vl) (m' : Mem), forL (gVar 4) lrD xs [some (.obj n), e1, some (.str u), some (.obj p), e4, e5, e6, e7] m = some (.nx [some (.obj n), e1, some (.str u), some (.obj p), f4, f5, f6, e7], m') ∧ m'[p]? = some (.lst (Ts'.map Tr.v)) ∧ (∀ t ∈ Ts', t.Ok) ∧ Ts'.length ≤ Ts.length + xs.length ∧ (Ds u Ts → Ds u Ts') ∧ Fp ns n p m m'
  | [], Ts, m, e4, e5, e6, _, hb, hp, hz, hT => ⟨Ts, e4, e5, e6, m, rfl, hp, hT, Nat.le_refl _, (fun d => d), (Fr.refl hb).p p⟩
  | x :: xs, Ts, m, e4, e5, e6, hx, hb, hp, hz, hT => by
    obtain ⟨i, rfl⟩ := hx x (List.mem_cons_self ..)
    rw [List.length_cons] at hz
    obtain ⟨T1, f5, f6, m1, s, r1, r2, r3, r4, F1⟩ := lr_step hu hb hpn hp (by omega) hT i e1 e5 e6 e7
    obtain ⟨T2, g4, g5, g6, m2, q, q1, q2, q3, q4, F2⟩ := lr_loop hu hpn e1 e7 xs T1 m1 (some (.int i)) f5 f6 (fun y hy => hx y (List.mem_cons_of_mem _ hy)) F1.bag r1 (by omega) r2
    refine ⟨T2, g4, g5, g6, m2, ?_, q1, q2, by rw [List.length_cons]; omega, fun d => q4 (r4 d), F1.trans F2⟩
    unfold forL
    simp only [gVar_ap]
    show (match lrD [some (.obj n), e1, some (.str u), some (.obj p), some (.int i), e5, e6, e7] m with
      | some (.nx env2, m2) => forL (gVar 4) lrD xs env2 m2
      | some (.ct env2, m2) => forL (gVar 4) lrD xs env2 m2
      | some (.bk env2, m2) => some (.nx env2, m2)
      | r => r) = _
    rw [s]
    exact q
theorem ints_int {k : Nat} {a : Int} : ∀ x ∈ intsZ a k, ∃ i, x = Vl.int i := fun x h => by
  unfold intsZ at h
  obtain ⟨i, _, rfl⟩ := List.mem_map.mp h
  exact ⟨_, rfl⟩
theorem rows_ok {ns : List Int} {n : Nat} {m : Mem} {u : Str} (hu : u ∈ UQ) (hb : Bag ns n m) (k : Int) (k0 : 0 ≤ k) (k1 : k ≤ 50) : ∃ (Ts : List Tr) (p : Nat) (m' : Mem), c_law_rows_3 [.obj n, .int k, .str u] [] m = some (.ok (.obj p), m') ∧ m'[p]? = some (.lst (Ts.map Tr.v)) ∧ (∀ t ∈ Ts, t.Ok) ∧ Ds u Ts ∧ (Ts.length : Int) ≤ k ∧ m.length ≤ p ∧ p ≠ n ∧ Fr ns n m m' := by
  have hlt := hb.lt
  have r := rng_i k (by omega) k0
  obtain ⟨Ts, f4, f5, f6, m', q, q1, q2, q3, q4, F⟩ := lr_loop (p := m.length) hu (by omega) (some (.int k)) none (intsZ 0 k.toNat) [] (m ++ [.lst []]) none none none ints_int (hb.app [.lst []]) (by simp) (by rw [ints_len, List.length_nil]; omega) (fun t ht => nomatch ht)
  rw [ints_len, List.length_nil] at q3
  refine ⟨Ts, m.length, m', ?_, q1, q2, q4 ⟨by simp, fun _ => by simp, fun _ => by simp⟩, by omega, Nat.le_refl _, by omega, ⟨F.bag, ?_, fun j j1 j2 => ?_⟩⟩
  · show bodyD 8 (dSeq D_law_rows_0 (dSeq (dFor (iRg1 (dCons (dVar 1) (fun _ m => some (.ok [], m)))) (gVar 4) lrD) D_law_rows_2)) [.obj n, .int k, .str u] m = _
    simp [bodyD, startZ, D_law_rows_0, D_law_rows_2, r, q]
  · have := F.le
    rw [List.length_append] at this
    omega
  · rw [F.keep j j1 (by omega) (by rw [List.length_append]; omega), List.getElem?_append_left j2]
end
section
def seekD : DS := dIfS (b2 eqF (d2 ixA (dVar 2) (dC (.int 0))) (dVar 1)) (dRet (dVar 2)) dNil
theorem seek_loop {s : Vl} {i : Int} {m : Mem} : ∀ (l : List Tr) (e : Option Vl),
    (∀ t, l.find? (fun t => decide (t.q = i)) = some t → forL (gVar 2) seekD (l.map Tr.v) [some s, some (.int i), e] m = some (.rt t.v, m)) ∧
    (l.find? (fun t => decide (t.q = i)) = none → ∃ e', forL (gVar 2) seekD (l.map Tr.v) [some s, some (.int i), e] m = some (.nx [some s, some (.int i), e'], m))
  | [], e => ⟨(fun t h => nomatch h), fun _ => ⟨e, rfl⟩⟩
  | r :: l, e => by
    have unf : forL (gVar 2) seekD ((r :: l).map Tr.v) [some s, some (.int i), e] m = (match seekD [some s, some (.int i), some r.v] m with
      | some (.nx env2, m2) => forL (gVar 2) seekD (l.map Tr.v) env2 m2
      | some (.ct env2, m2) => forL (gVar 2) seekD (l.map Tr.v) env2 m2
      | some (.bk env2, m2) => some (.nx env2, m2)
      | r => r) := rfl
    have i0 : ixA r.v (.int 0) m = some (.int r.q, m) := ix0 m
    obtain ⟨h1, h2⟩ := seek_loop (s := s) (i := i) (m := m) l (some r.v)
    rw [unf, List.find?_cons]
    by_cases h : r.q = i
    · have b : seekD [some s, some (.int i), some r.v] m = some (.rt r.v, m) := by
        simp [seekD, i0, h]
      rw [b, decide_eq_true h]
      exact ⟨fun t ht => by
        cases ht
        rfl, fun ht => nomatch ht⟩
    · have b : seekD [some s, some (.int i), some r.v] m = some (.nx [some s, some (.int i), some r.v], m) := by
        simp [seekD, i0, h]
      rw [b, decide_eq_false h]
      exact ⟨h1, h2⟩
theorem find_none {R : List Tr} {i : Int} : R.find? (fun t => decide (t.q = i)) = none ↔ i ∉ R.map Tr.q := by
  rw [List.find?_eq_none]
  constructor
  · intro h hm
    obtain ⟨t, ht, e⟩ := List.mem_map.mp hm
    exact h t ht (decide_eq_true e)
  · intro h t ht e
    exact h (List.mem_map.mpr ⟨t, ht, of_decide_eq_true e⟩)
theorem row_of_not {u : Str} {R : List Tr} {x : Vl} {m : Mem} (hx : c_is_value_1 [x] [] m = some (.ok (.bl false), m)) : G_Store_row_of [sV u R, x] m = some (.ok .non, m) := by
  show bodyD 3 D_Store_row_of [sV u R, x] m = _
  simp [bodyD, startZ, D_Store_row_of, hx]
theorem row_of_loop {u : Str} {R : List Tr} {i : Int} (h0 : 0 ≤ i) (h9 : i ≤ 999) (m : Mem) : G_Store_row_of [sV u R, .int i] m = (match forL (gVar 2) seekD ((sortR R).map Tr.v) [some (sV u R), some (.int i), none] m with
    | some (.rt v, m') => some (.ok v, m')
    | some (.nx _, m') => some (.ok .non, m')
    | some (.ex c fs _, m') => some (.ex c fs, m')
    | _ => none) := by
  have hx := isval_int h0 h9 m
  have f1 : dFld ["Store"] "rows" (dVar 0) [some (sV u R), some (.int i), none] m = some (.ok (.tup ((sortR R).map Tr.v)), m) := rfl
  have b : dFor (iSeqD (dFld ["Store"] "rows" (dVar 0))) (gVar 2) seekD [some (sV u R), some (.int i), none] m = forL (gVar 2) seekD ((sortR R).map Tr.v) [some (sV u R), some (.int i), none] m := rfl
  show bodyD 3 (dSeq (dIfS (tTr (dCall 1 0 c_is_value_1 (dCons (dVar 1) (fun _ m => some (.ok [], m))) dNone)) (dFor (iSeqD (dFld ["Store"] "rows" (dVar 0))) (gVar 2) seekD) dNil) (dRet (dC .non))) [sV u R, .int i] m = _
  have c : dIfS (tTr (dCall 1 0 c_is_value_1 (dCons (dVar 1) (fun _ m => some (.ok [], m))) dNone)) (dFor (iSeqD (dFld ["Store"] "rows" (dVar 0))) (gVar 2) seekD) dNil [some (sV u R), some (.int i), none] m = forL (gVar 2) seekD ((sortR R).map Tr.v) [some (sV u R), some (.int i), none] m := by
    rw [← b]
    simp [hx]
  unfold bodyD
  show (match dSeq _ _ [some (sV u R), some (.int i), none] m with
    | some (.rt v, m') => some (Z.R.ok v, m')
    | some (.nx _, m') => some (.ok .non, m')
    | some (.ex c fs _, m') => some (.ex c fs, m')
    | _ => none) = _
  rw [dSeq_ap, c]
  cases hz : forL (gVar 2) seekD ((sortR R).map Tr.v) [some (sV u R), some (.int i), none] m with
  | none => rfl
  | some p =>
    obtain ⟨o, m'⟩ := p
    cases o <;> rfl
theorem row_of_in {u : Str} {R : List Tr} {i : Int} (h0 : 0 ≤ i) (h9 : i ≤ 999) (hi : i ∈ R.map Tr.q) (m : Mem) : ∃ t : Tr, G_Store_row_of [sV u R, .int i] m = some (.ok t.v, m) := by
  have hi : i ∈ (sortR R).map Tr.q := ((sortR_perm R).map Tr.q).mem_iff.mpr hi
  cases hf : (sortR R).find? (fun t => decide (t.q = i)) with
  | none => exact absurd hi (find_none.mp hf)
  | some t => exact ⟨t, by rw [row_of_loop h0 h9, (seek_loop (sortR R) none).1 t hf]⟩
theorem row_of_out {u : Str} {R : List Tr} {i : Int} (h0 : 0 ≤ i) (h9 : i ≤ 999) (hi : i ∉ R.map Tr.q) (m : Mem) : G_Store_row_of [sV u R, .int i] m = some (.ok .non, m) := by
  have hi : i ∉ (sortR R).map Tr.q := fun h => hi (((sortR_perm R).map Tr.q).mem_iff.mp h)
  obtain ⟨e', e⟩ := (seek_loop (s := sV u R) (i := i) (m := m) (sortR R) none).2 (find_none.mpr hi)
  rw [row_of_loop h0 h9, e]
end
section
theorem dStar_ap {de : DE} {d : DA} {env : Ev} {m : Mem} : dStar de d env m = bindR (de env m) fun x m => match seqD m x with
  | some xs => bindR (d env m) fun ys m => some (.ok (xs ++ ys), m)
  | none => none := rfl
theorem bodyD_ret {n : Nat} {d : DE} {xs : List Vl} {m m' : Mem} {r : Z.R Vl} (h : d (startZ n xs) m = some (r, m')) : bodyD n (dRet d) xs m = some (r, m') := by
  unfold bodyD dRet
  rw [h]
  cases r <;> rfl
theorem callSm_eq {np j : Nat} {gd : List Vl → List Vl → Mem → Option (Z.R Vl × Mem)} {d dk : DA} {env : Ev} {m : Mem} {xs ys : List Vl} (s1 : d env m = some (.ok xs, m)) (s2 : dk env m = some (.ok ys, m)) (h : np ≤ xs.length ∧ xs.length < sizeLine ∧ ys.length = j) : dCallSm np j gd d dk env m = gd xs ys m := by
  simp only [dCallSm, s1, s2, bindR, if_pos h]
theorem callSt_eq {np j : Nat} {gd : List Vl → List Vl → Mem → Option (Z.R Vl × Mem)} {d : DE} {dk : DA} {env : Ev} {m : Mem} {x : Vl} {xs ys : List Vl} (s1 : d env m = some (.ok x, m)) (s0 : seqD m x = some xs) (s2 : dk env m = some (.ok ys, m)) (h : np ≤ xs.length ∧ xs.length < sizeLine ∧ ys.length = j) : dCallSt np j gd d dk env m = gd xs ys m := by
  simp only [dCallSt, s1, s0, s2, bindR, if_pos h]
theorem lcZ_filter {g : DGc} {dt : DT} {de : DE} {env : Ev} {m : Mem} {p : Vl → Bool} : ∀ {ys : List Vl}, (∀ x ∈ ys, ∃ env1, g x env = some env1 ∧ dt env1 m = some (.ok (p x), m) ∧ (p x = true → de env1 m = some (.ok x, m))) → lcZ g dt de env ys m = some (ys.filter p, m)
  | [], _ => rfl
  | x :: xs, h => by
    obtain ⟨env1, h1, h2, h3⟩ := h x List.mem_cons_self
    have ih := lcZ_filter (ys := xs) fun y hy => h y (List.mem_cons_of_mem _ hy)
    unfold lcZ
    cases hp : p x with
    | true =>
      rw [hp] at h2
      simp [h1, h2, h3 hp, ih, List.filter_cons, hp]
    | false =>
      rw [hp] at h2
      simp [h1, h2, ih, List.filter_cons, hp]
def stF (u : Str) (R : List Tr) : List (Str × Vl) := [("rows", .tup ((sortR R).map Tr.v)), ("unique", .str u)]
theorem insD_st (u : Str) (R : List Tr) (m : Mem) : insD m (sV u R) = some (("Store" : Str), stF u R) := rfl
theorem rm_meth {u : Str} {R : List Tr} {x : Vl} {m : Mem} (e2 e3 : Option Vl) : dMeth "Store" "row_of" 1 0 (fun xs ys => pickL [.a 0, .a 1] xs [] [] ys) G_Store_row_of (dVar 0) (dCons (dVar 1) (fun _ m => some (.ok [], m))) dNone [some (sV u R), some x, e2, e3] m = G_Store_row_of [sV u R, x] m := by
  have hc : (decide (("Store" : Str) = "Store") && ((stF u R).lookup ("row_of" : Str)).isNone) = true := by
    have h : (("row_of" : Str) == ("rows" : Str)) = false := by decide +kernel
    have h2 : (("row_of" : Str) == ("unique" : Str)) = false := by decide +kernel
    simp [stF, List.lookup, h, h2]
  unfold dMeth
  simp only [dVar_z, dVar_s, bindR_ok, insD_st, hc, if_true, dCons_ap, dNone_ap, List.length_cons, List.length_nil, and_self]
  rfl
theorem isA_non {m : Mem} : isA false .non .non m = some (.bl true, m) := rfl
theorem isA_v (t : Tr) (m : Mem) : isA false t.v .non m = some (.bl false, m) := rfl
def chg (cb : Bool) (v : Int) (t : Tr) : Tr := if cb = true then ⟨t.q, v, t.b⟩ else ⟨t.q, t.a, v⟩
def cv (cb : Bool) : Str := if cb = true then "a" else "b"
def has (u : Str) (cb : Bool) : Bool := if cb = true then hasA u else hasB u
def cel (cb : Bool) (t : Tr) : Int := if cb = true then t.a else t.b
def oth (i : Int) (R : List Tr) : List Tr := R.filter fun t => !decide (t.q = i)
def putR (cb : Bool) (v i : Int) (R : List Tr) : List Tr := R.map fun r => if r.q = i then chg cb v r else r
def tk (u : Str) (cb : Bool) (v i : Int) (R : List Tr) : Bool := has u cb && (oth i R).any fun r => decide (cel cb r = v)
theorem chg_q (cb : Bool) (v : Int) (t : Tr) : (chg cb v t).q = t.q := by cases cb <;> rfl
theorem chg_ok {cb : Bool} {v : Int} {t : Tr} (h : t.Ok) (h0 : 0 ≤ v) (h9 : v ≤ 999) : (chg cb v t).Ok := by
  cases cb
  · exact ⟨h.q, h.a, ⟨h0, h9⟩⟩
  · exact ⟨h.q, ⟨h0, h9⟩, h.b⟩
theorem nd_inj {f : Tr → Int} : ∀ {R : List Tr}, (R.map f).Nodup → ∀ a ∈ R, ∀ b ∈ R, f a = f b → a = b
  | [], _, a, ha, _, _, _ => nomatch ha
  | r :: R, hn, a, ha, b, hb, e => by
    rw [List.map_cons, List.nodup_cons] at hn
    rcases List.mem_cons.mp ha with ha1 | ha1
    · rcases List.mem_cons.mp hb with hb1 | hb1
      · rw [ha1, hb1]
      · rw [ha1] at e
        exact absurd (List.mem_map.mpr ⟨b, hb1, e.symm⟩) hn.1
    · rcases List.mem_cons.mp hb with hb1 | hb1
      · rw [hb1] at e
        exact absurd (List.mem_map.mpr ⟨a, ha1, e⟩) hn.1
      · exact nd_inj hn.2 a ha1 b hb1 e
theorem oth_mem {i : Int} {R : List Tr} {r : Tr} : r ∈ oth i R ↔ r ∈ R ∧ r.q ≠ i := by
  unfold oth
  rw [List.mem_filter]
  simp
theorem oth_sub (i : Int) (R : List Tr) : (oth i R).Sublist R := List.filter_sublist
theorem bad_chg {u : Str} {R : List Tr} (d : Ds u R) {t : Tr} (ht : t ∈ R) (cb : Bool) (v : Int) : bad u (oth t.q R) (chg cb v t) = if tk u cb v t.q R = true then some (.cell (cv cb)) else none := by
  have hq : ((oth t.q R).any fun r => decide (r.q = t.q)) = false := by
    rw [List.any_eq_false]
    intro r hr
    simp [(oth_mem.mp hr).2]
  have ha : hasA u = true → ((oth t.q R).any fun r => decide (r.a = t.a)) = false := fun z => by
    rw [List.any_eq_false]
    intro r hr e
    have hr := oth_mem.mp hr
    exact hr.2 (by rw [nd_inj (d.a z) r hr.1 t ht (of_decide_eq_true e)])
  have hb : hasB u = true → ((oth t.q R).any fun r => decide (r.b = t.b)) = false := fun z => by
    rw [List.any_eq_false]
    intro r hr e
    have hr := oth_mem.mp hr
    exact hr.2 (by rw [nd_inj (d.b z) r hr.1 t ht (of_decide_eq_true e)])
  have ha2 : (hasA u && (oth t.q R).any fun r => decide (r.a = t.a)) = false := by
    cases z : hasA u with
    | false => rfl
    | true => rw [ha z]; rfl
  have hb2 : (hasB u && (oth t.q R).any fun r => decide (r.b = t.b)) = false := by
    cases z : hasB u with
    | false => rfl
    | true => rw [hb z]; rfl
  unfold bad tk
  cases cb with
  | true => simp only [chg, has, cel, cv, if_true, hq, hb2, Bool.false_eq_true, if_false]
  | false => simp only [chg, has, cel, cv, if_false, hq, ha2, Bool.false_eq_true]
theorem put_out {cb : Bool} {v i : Int} : ∀ {R : List Tr}, i ∉ R.map Tr.q → oth i R = R ∧ putR cb v i R = R
  | [], _ => ⟨rfl, rfl⟩
  | r :: R, h => by
    rw [List.map_cons, List.mem_cons, not_or] at h
    obtain ⟨h1, h2⟩ := put_out (cb := cb) (v := v) h.2
    have hr : r.q ≠ i := fun e => h.1 e.symm
    constructor
    · unfold oth at h1 ⊢
      rw [List.filter_cons, if_pos (by simp [hr]), h1]
    · unfold putR at h2 ⊢
      rw [List.map_cons, if_neg hr, h2]
theorem put_perm {cb : Bool} {v : Int} {t : Tr} : ∀ {R : List Tr}, (R.map Tr.q).Nodup → t ∈ R → (oth t.q R ++ [chg cb v t]).Perm (putR cb v t.q R)
  | [], _, h => nomatch h
  | r :: R, hn, h => by
    rw [List.map_cons, List.nodup_cons] at hn
    rcases List.mem_cons.mp h with e | e
    · subst e
      obtain ⟨h1, h2⟩ := put_out (cb := cb) (v := v) hn.1
      have e1 : oth t.q (t :: R) = R := by
        unfold oth at h1 ⊢
        rw [List.filter_cons, if_neg (by simp), h1]
      have e2 : putR cb v t.q (t :: R) = chg cb v t :: R := by
        unfold putR at h2 ⊢
        rw [List.map_cons, if_pos rfl, h2]
      rw [e1, e2]
      exact List.perm_append_singleton _ _
    · have hr : r.q ≠ t.q := fun z => hn.1 (z ▸ List.mem_map.mpr ⟨t, e, rfl⟩)
      have ih := put_perm (cb := cb) (v := v) hn.2 e
      have e1 : oth t.q (r :: R) = r :: oth t.q R := by
        unfold oth
        rw [List.filter_cons, if_pos (by simp [hr])]
      have e2 : putR cb v t.q (r :: R) = r :: putR cb v t.q R := by
        unfold putR
        rw [List.map_cons, if_neg hr]
      rw [e1, e2]
      exact ih.cons r
theorem put_q (cb : Bool) (v i : Int) (R : List Tr) : (putR cb v i R).map Tr.q = R.map Tr.q := by
  unfold putR
  rw [List.map_map]
  refine List.map_congr_left fun r _ => ?_
  show (if r.q = i then chg cb v r else r).q = r.q
  split
  · exact chg_q _ _ _
  · rfl
structure RwS (u : Str) (R : List Tr) : Prop where
  ok : ∀ t ∈ R, t.Ok
  ds : Ds u R
  so : (R.map Tr.q).Pairwise (· < ·)
  le : R.length ≤ 40
theorem RwS.put {u : Str} {R : List Tr} (g : RwS u R) {t : Tr} (ht : t ∈ R) {cb : Bool} {v : Int} (h0 : 0 ≤ v) (h9 : v ≤ 999) (hk : tk u cb v t.q R = false) : RwS u (putR cb v t.q R) := by
  have b := bad_chg g.ds ht cb v
  rw [hk] at b
  refine ⟨fun r hr => ?_, (ds_snoc.mpr ⟨g.ds.sub (oth_sub _ _), b⟩).perm (put_perm g.ds.q ht).symm, ?_, ?_⟩
  · unfold putR at hr
    obtain ⟨s, hs, rfl⟩ := List.mem_map.mp hr
    split
    · exact chg_ok (g.ok s hs) h0 h9
    · exact g.ok s hs
  · rw [put_q]
    exact g.so
  · unfold putR
    rw [List.length_map]
    exact g.le
theorem sorted_v {u : Str} {R : List Tr} (g : RwS u R) : (sortR R).map Tr.v = R.map Tr.v := by
  rw [sortR_v g.ok]
  refine (usort_eq (some3 g.ok) (.refl _) ?_).symm
  rw [List.pairwise_map]
  have h := g.so
  rw [List.pairwise_map] at h
  refine h.imp_of_mem fun {a b} ha hb h => ?_
  have oa := g.ok a ha
  have ob := g.ok b hb
  rw [code_tr oa, code_tr ob]
  have h1 := oa.a
  have h2 := oa.b
  have h3 := ob.a
  have h4 := ob.b
  omega
end
section
theorem row_of_at {u : Str} {R : List Tr} (d : Ds u R) {t : Tr} (ht : t ∈ R) (hk : t.Ok) (m : Mem) : G_Store_row_of [sV u R, .int t.q] m = some (.ok t.v, m) := by
  have hi : t.q ∈ (sortR R).map Tr.q := ((sortR_perm R).map Tr.q).mem_iff.mpr (List.mem_map.mpr ⟨t, ht, rfl⟩)
  cases hf : (sortR R).find? (fun s => decide (s.q = t.q)) with
  | none => exact absurd hi (find_none.mp hf)
  | some s =>
    have hs : s ∈ R := (sortR_perm R).mem_iff.mp (List.mem_of_find?_eq_some hf)
    have e : s.q = t.q := of_decide_eq_true (List.find?_some (p := fun s : Tr => decide (s.q = t.q)) hf)
    have e : s = t := nd_inj d.q s hs t ht e
    rw [row_of_loop hk.q.1 hk.q.2, (seek_loop (sortR R) none).1 s hf, e]
theorem rm_m {u : Str} {R : List Tr} {x : Vl} {m : Mem} (e : Ev) : dMeth "Store" "row_of" 1 0 (fun xs ys => pickL [.a 0, .a 1] xs [] [] ys) G_Store_row_of (dVar 0) (dCons (dVar 1) (fun _ m => some (.ok [], m))) dNone (some (sV u R) :: some x :: e) m = G_Store_row_of [sV u R, x] m := by
  have hc : (decide (("Store" : Str) = "Store") && ((stF u R).lookup ("row_of" : Str)).isNone) = true := by
    have h : (("row_of" : Str) == ("rows" : Str)) = false := by decide +kernel
    have h2 : (("row_of" : Str) == ("unique" : Str)) = false := by decide +kernel
    simp [stF, List.lookup, h, h2]
  unfold dMeth
  simp only [dVar_z, dVar_s, bindR_ok, insD_st, hc, if_true, dCons_ap, dNone_ap, List.length_cons, List.length_nil, and_self]
  rfl
theorem seq_nx {a b : DS} {env env1 : Ev} {m m1 : Mem} {r : Option (Fl × Mem)} (h1 : a env m = some (.nx env1, m1)) (h2 : b env1 m1 = r) : dSeq a b env m = r := by
  rw [dSeq_ap, h1, thenS_nx]
  exact h2
theorem body_rt {n : Nat} {d : DS} {xs : List Vl} {m m' : Mem} {v : Vl} (h : d (startZ n xs) m = some (.rt v, m')) : bodyD n d xs m = some (.ok v, m') := by
  unfold bodyD
  rw [h]
theorem body_ex {n : Nat} {d : DS} {xs : List Vl} {m m' : Mem} {c : Str} {fs : List (Str × Vl)} {e : Ev} (h : d (startZ n xs) m = some (.ex c fs e, m')) : bodyD n d xs m = some (.ex c fs, m') := by
  unfold bodyD
  rw [h]
theorem isA_t (t : Tr) (m : Mem) : isA false t.v .non m = some (.bl false, m) := rfl
section
variable {u : Str} (hu : u ∈ UQ)
include hu
end
end
section
def Told (x : Vl) : Prop := ∃ S : Str, ∀ m, reprF [x] m = some (.str S, m)
theorem told_no_ : Told .non := ⟨(PyData.none).shown, fun m => repr_sm (d := .none) (k := 5) (n := 500) rfl ⟨rfl, Nat.zero_le _, rfl, rfl, by show 4 ≤ 500; decide⟩ (by decide) (by decide)⟩
theorem sd_cv (cb : Bool) : Sd (.str (cv cb)) := by
  cases cb
  · exact ⟨_, rfl, ⟨by decide +kernel, by decide +kernel, by decide +kernel, by decide +kernel, by decide +kernel⟩⟩
  · exact ⟨_, rfl, ⟨by decide +kernel, by decide +kernel, by decide +kernel, by decide +kernel, by decide +kernel⟩⟩
def KeyV (x : Vl) : Prop := (∃ i : Int, 0 ≤ i ∧ i ≤ 999 ∧ x = .int i) ∨ x ∈ ODs
theorem seq_rt {a b : DS} {env : Ev} {m m1 : Mem} {v : Vl} (h1 : a env m = some (.rt v, m1)) : dSeq a b env m = some (.rt v, m1) := by
  rw [dSeq_ap, h1]
  rfl
section
variable {u : Str} (hu : u ∈ UQ)
include hu
end
end
section
theorem tr_sm {t : Tr} (h : t.Ok) : ∃ d, Z.toD t.v = some d ∧ Sm d 6 1510 := by
  obtain ⟨ds, h1, h2, h3⟩ := sds (row_sd h)
  exact ⟨_, toD_tup h1, (sm_tuple h3).mono (by decide) (by rw [h2]; show 3 * (500 + 2) + 4 ≤ 1510; decide)⟩
theorem rows_sm : ∀ {R : List Tr}, (∀ t ∈ R, t.Ok) → ∃ ds, Z.toDs (R.map Tr.v) = some ds ∧ ds.length = R.length ∧ ∀ d ∈ ds, Sm d 6 1510
  | [], _ => ⟨[], rfl, rfl, fun _ h => nomatch h⟩
  | r :: R, h => by
    obtain ⟨d, h1, h2⟩ := tr_sm (h r (List.mem_cons_self ..))
    obtain ⟨ds, h3, h4, h5⟩ := rows_sm (R := R) fun t ht => h t (List.mem_cons_of_mem _ ht)
    refine ⟨d :: ds, toDs_cons h1 h3, by rw [List.length_cons, List.length_cons, h4], fun e he => ?_⟩
    rcases List.mem_cons.mp he with rfl | he
    · exact h2
    · exact h5 e he
theorem rows_told {R : List Tr} (hR : ∀ t ∈ R, t.Ok) (hz : R.length ≤ 60) : Told (.lst (R.map Tr.v)) := by
  obtain ⟨ds, h1, h2, h3⟩ := rows_sm hR
  exact ⟨_, fun m => repr_sm (x := .lst (R.map Tr.v)) (d := .list ds) (m := m) (toD_lst h1) (sm_list h3) (by decide) (by rw [h2]; omega)⟩
theorem rows_nil {R : List Tr} (hR : ∀ t ∈ R, t.Ok) (m : Mem) : neF (.lst (R.map Tr.v)) (.lst []) m = some (.bl (!R.isEmpty), m) := by
  obtain ⟨ds, h1, h2, h3⟩ := rows_sm hR
  have z := (eq_sm (x := .lst (R.map Tr.v)) (y := .lst []) (m := m) (.inl rfl) (toD_lst h1) rfl (sm_list h3) (sm_list (ds := []) (k := 1) (n := 440) fun d hd => nomatch hd) (by decide) (by decide)).2
  have e : PyData.eqv (.list ds) (.list []) = R.isEmpty := by
    cases R with
    | nil =>
      cases h1
      rfl
    | cons x L =>
      cases ds with
      | nil => cases h2
      | cons d ds => rfl
  rw [e] at z
  exact z
theorem eq_same {x : Vl} {d : PyData} {m : Mem} {k n : Nat} (h : flatL x = none) (h1 : toDm m x = some d) (s : Sm d k n) (hk : k ≤ 60) : eqF x x m = some (.bl true, m) ∧ neF x x m = some (.bl false, m) := by
  have z := eq_sm (.inl h) h1 h1 s s hk hk
  rw [PySem.SeqAt.eqv_refl d s.lay] at z
  exact z
section
variable {u : Str} (hu : u ∈ UQ)
include hu
theorem rows_eq {R : List Tr} (hR : ∀ t ∈ R, t.Ok) (m : Mem) : eqF (.tup (R.map Tr.v)) (.tup (R.map Tr.v)) m = some (.bl true, m) := by
  obtain ⟨ds, h1, h2, h3⟩ := rows_sm hR
  exact (eq_same (x := .tup (R.map Tr.v)) (d := .tuple ds) (m := m) rfl (toD_tup h1) (sm_tuple h3) (by decide)).1
theorem sortR_ok {R : List Tr} (hR : ∀ t ∈ R, t.Ok) : ∀ t ∈ sortR R, t.Ok := fun t ht => hR t ((sortR_perm R).mem_iff.mp ht)
theorem eq_ok {R : List Tr} (hR : ∀ t ∈ R, t.Ok) (m : Mem) : G_Store_eq [sV u R, sV u R] m = some (.ok (.bl true), m) := by
  have e := rows_eq hu (sortR_ok hu hR) m
  have i : isiF csZ (kitT kitL) [sV u R, .glo "Store"] m = some (.bl true, m) := by
    show isiF csZ (kitT kitL) [.ins "Store" _, .glo "Store"] m = _
    rfl
  have f1 : dFld ["Store"] "rows" (dVar 0) [some (sV u R), some (sV u R)] m = some (.ok (.tup ((sortR R).map Tr.v)), m) := rfl
  have f2 : dFld ["Store"] "rows" (dVar 1) [some (sV u R), some (sV u R)] m = some (.ok (.tup ((sortR R).map Tr.v)), m) := rfl
  have f3 : dFld ["Store"] "unique" (dVar 0) [some (sV u R), some (sV u R)] m = some (.ok (.str u), m) := rfl
  have f4 : dFld ["Store"] "unique" (dVar 1) [some (sV u R), some (sV u R)] m = some (.ok (.str u), m) := rfl
  show bodyD 2 D_Store_eq [sV u R, sV u R] m = _
  simp [bodyD, startZ, D_Store_eq, -dFld_ap, f1, f2, f3, f4, i, e]
theorem of_sorted {R : List Tr} (hR : ∀ t ∈ R, t.Ok) (d : Ds u R) (hz : R.length ≤ 60) {m : Mem} {x : Vl} (hx : seqD m x = some (usort (R.map Tr.v))) : G_Store_of [x, .str u] m = some (.ok (sV u R), m) := by
  have hl : ∀ y ∈ (sortR R).map It.ok, y.Ok := fun y hy => by
    obtain ⟨t, ht, rfl⟩ := List.mem_map.mp hy
    exact sortR_ok hu hR t ht
  have em : ((sortR R).map It.ok).map It.v = usort (R.map Tr.v) := by
    rw [List.map_map, ← sortR_v hR]
    rfl
  obtain ⟨h1, _⟩ := of_ok hu hl (by rw [List.length_map, (sortR_perm R).length_eq]; exact hz) (m := m) (x := x) (by rw [em]; exact hx)
  have e := h1 _ (goS_ds (d.perm (sortR_perm R)))
  rw [stV_eq (sortR_ok hu hR) (d.perm (sortR_perm R)), sV_perm hR (sortR_perm R)] at e
  exact e
end
end
section
theorem smeth_of {x uv : Vl} {da dk : DE} {env : Ev} {m : Mem} {r : R Vl × Mem} (ha : da env m = some (.ok x, m)) (hk : dk env m = some (.ok uv, m)) (h : G_Store_of [x, uv] m = some r) : dSMeth "Store" 1 1 (fun xs ys => pickL [.a 0, .k 0] xs [] [] ys) G_Store_of (dC (.glo "Store")) (dCons da (fun _ m => some (.ok [], m))) (dCons dk (fun _ m => some (.ok [], m))) env m = some r := by
  unfold dSMeth
  simp only [dC_ap, bindR_ok, if_true, dCons_ap, ha, hk, List.length_cons, List.length_nil, and_self]
  exact h
theorem sort_rw {u : Str} {R : List Tr} (hR : ∀ t ∈ R, t.Ok) (d : Ds u R) (hz : R.length ≤ 40) : RwS u (sortR R) := by
  have p := sortR_perm R
  have d2 := d.perm p
  have ok : ∀ t ∈ sortR R, t.Ok := fun t ht => hR t (p.mem_iff.mp ht)
  refine ⟨ok, d2, ?_, by rw [p.length_eq]; exact hz⟩
  have w := usort_pw (R.map Tr.v)
  rw [← sortR_v hR, List.pairwise_map] at w
  have nd := d2.q
  unfold List.Nodup at nd
  rw [List.pairwise_map] at nd ⊢
  refine (w.and nd).imp_of_mem fun {a b} ha hb h => ?_
  have oa := ok a ha
  have ob := ok b hb
  have h1 := h.1
  rw [code_tr oa, code_tr ob] at h1
  have h2 := h.2
  have a1 := oa.a
  have a2 := oa.b
  have b1 := ob.a
  have b2 := ob.b
  omega
section
variable {u : Str} (hu : u ∈ UQ)
include hu
theorem of_rw {R : List Tr} (g : RwS u R) (m : Mem) : G_Store_of [.lst (R.map Tr.v), .str u] m = some (.ok (sV u R), m) := by
  refine of_sorted hu g.ok g.ds (Nat.le_trans g.le (by decide)) ?_
  rw [← sortR_v g.ok, sorted_v g]
  rfl
theorem put_own {R : List Tr} (d : Ds u R) {t : Tr} (ht : t ∈ R) (cb : Bool) : putR cb (cel cb t) t.q R = R ∧ tk u cb (cel cb t) t.q R = false := by
  constructor
  · unfold putR
    conv => rhs; rw [← List.map_id R]
    refine List.map_congr_left fun r hr => ?_
    show (if r.q = t.q then _ else r) = r
    split
    · rename_i e
      have e := nd_inj d.q r hr t ht e
      subst e
      cases cb <;> rfl
    · rfl
  · unfold tk
    cases hh : has u cb with
    | false => rfl
    | true =>
      rw [Bool.true_and, List.any_eq_false]
      intro r hr e
      have hr := oth_mem.mp hr
      have e : cel cb r = cel cb t := of_decide_eq_true e
      refine hr.2 ?_
      cases cb with
      | true => rw [nd_inj (d.a hh) r hr.1 t ht e]
      | false => rw [nd_inj (d.b hh) r hr.1 t ht e]
theorem cmpN_same {R : List Tr} (g : RwS u R) {da : DE} {env : Ev} {m : Mem} (ha : da env m = some (.ok (sV u R), m)) (h6 : dVar 6 env m = some (.ok (sV u R), m)) : dCmpN "Store" csZ tsZ (fun xs ys => pickL [.a 0, .a 1] xs [] [] ys) G_Store_eq da (dVar 6) env m = some (.ok (.bl false), m) := by
  have hc : (decide (("Store" : Str) = "Store") && (tsZ.contains (TD.c "Store") && tdOk csZ (TD.c "Store"))) = true := by decide +kernel
  have q := eq_ok hu g.ok m
  unfold dCmpN
  rw [ha]
  simp only [bindR_ok, h6, insD_st]
  show (if (decide (("Store" : Str) = "Store") && (tsZ.contains (TD.c "Store") && tdOk csZ (TD.c "Store"))) = true then (match G_Store_eq [sV u R, sV u R] m with
    | some (Z.R.ok (.bl r), m') => some (Z.R.ok (Vl.bl (!r)), m')
    | some (Z.R.ex c fs, m') => some (Z.R.ex c fs, m')
    | _ => none) else none) = _
  rw [if_pos hc, q]
  rfl
end
end
section
section
variable {u : Str} (hu : u ∈ UQ)
include hu
omit hu in
theorem len_ok (R : List Tr) (m : Mem) : G_Store_len [sV u R] m = some (.ok (.int R.length), m) := by
  show bodyD 1 D_Store_len [sV u R] m = _
  refine bodyD_ret (d := dB lenF (dCons (dFld ["Store"] "rows" (dVar 0)) (fun _ m => some (.ok [], m)))) ?_
  have ln : ((sortR R).map Tr.v).length = R.length := by rw [List.length_map, (sortR_perm R).length_eq]
  show some (Z.R.ok (Vl.int ((sortR R).map Tr.v).length), m) = _
  rw [ln]
end
end
section
theorem ne_q {u : Str} (i : Int) (t : Tr) (x2 : Option Vl) (s : Vl) (m : Mem) : b2 neF (d2 ixA (dVar 3) (dC (.int 0))) (dVar 1) [some s, some (.int i), x2, some t.v] m = some (.ok (!decide (t.q = i)), m) := by
  have i0 : ixA t.v (.int 0) m = some (.int t.q, m) := ix0 m
  simp [i0]
end
section
abbrev bsS : List String := ["NoneType", "bool", "int", "str", "tuple", "list"]
theorem binS {u : Str} {R : List Tr} {x : Vl} {gg : FD} {r : Z.R Vl × Mem} {e : Ev} {m : Mem} (ht : ∃ t, tyD m x = some t ∧ (binOk "Store" bsS t && tdOk csZ t) = true) (hg : gg [sV u R, x] m = some r) : dBinM "Store" csZ bsS (fun xs ys => pickL [.a 0, .a 1] xs [] [] ys) gg (dVar 0) (dVar 1) (some (sV u R) :: some x :: e) m = some r := by
  obtain ⟨t, h1, h2⟩ := ht
  unfold dBinM
  simp only [dVar_z, dVar_s, bindR_ok, insD_st, h1, h2, decide_true, Bool.and_self, if_true]
  exact hg
theorem ty_data {x : Vl} {d : PyData} (h : Z.toD x = some d) (m : Mem) : ∃ t, tyD m x = some t ∧ (binOk "Store" bsS t && tdOk csZ t) = true := by
  cases x <;> first
    | exact ⟨_, rfl, by decide +kernel⟩
    | exact nomatch h
theorem It.ty {x : It} (h : x.Ok) (m : Mem) : ∃ t, tyD m x.v = some t ∧ (binOk "Store" bsS t && tdOk csZ t) = true := by
  cases x with
  | ok t => exact ⟨.b "tuple", rfl, by decide +kernel⟩
  | bent y =>
    obtain ⟨d, h1, _⟩ := Bd.d h
    exact ty_data h1 m
def hsA : List Hz := [("BadRow", some 2, (dRet (dTup (dCons (dC .non) (dCons (dTup (dCons (dC (.str "row")) (dCons (dXf esZ "row" (dVar 2)) (fun _ m => some (.ok [], m))))) (fun _ m => some (.ok [], m))))))), ("KeyTaken", some 2, (dRet (dTup (dCons (dC .non) (dCons (dTup (dCons (dC (.str "key")) (dCons (dXf esZ "key" (dVar 2)) (fun _ m => some (.ok [], m))))) (fun _ m => some (.ok [], m))))))), ("Taken", some 2, (dRet (dTup (dCons (dC .non) (dCons (dTup (dCons (dC (.str "cell")) (dCons (dXf esZ "column" (dVar 2)) (fun _ m => some (.ok [], m))))) (fun _ m => some (.ok [], m)))))))]
def hsX : List Hz := [("NoRow", some 2, (dRet (dTup (dCons (dC .non) (dCons (dTup (dCons (dC (.str "no")) (dCons (dXf esZ "key" (dVar 2)) (fun _ m => some (.ok [], m))))) (fun _ m => some (.ok [], m)))))))]
section
variable {u : Str} (hu : u ∈ UQ)
include hu
omit hu in
end
end
section
theorem lenO_of {c : Str} {gz : List Vl → List Vl → List Vl} {g : FD} {d : DA} {env : Ev} {m : Mem} {x : Vl} {k : Int} {fs : List (Str × Vl)} (hd : d env m = some (.ok [x], m)) (hi : insD m x = some (c, fs)) (hg : g (gz [x] []) m = some (.ok (.int k), m)) (hb : (decide (0 ≤ k) && decide (k < 2 ^ 63)) = true) : dLenO c gz g d env m = some (.ok (.int k), m) := by
  unfold dLenO
  rw [hd]
  simp only [bindR_ok, hi, if_true, hg, hb]
theorem len_bound (k : Int) (h0 : 0 ≤ k) (h1 : k ≤ 1000) : (decide (0 ≤ k) && decide (k < 2 ^ 63)) = true := by
  rw [Bool.and_eq_true, decide_eq_true_eq, decide_eq_true_eq]
  omega
section
variable {u : Str} (hu : u ∈ UQ) {R : List Tr} {m : Mem} {env : Ev}
include hu
theorem len_u (hR : ∀ t ∈ R, t.Ok) : (usort (R.map Tr.v)).length = R.length := by
  rw [(usort_perm _).length_eq, List.length_map]
end
end
section
theorem seq_i2 {m : Mem} {q : Nat} {L : List Vl} (h : m[q]? = some (.lst L)) : seqD m (.obj q) = some L := by
  unfold seqD
  simp only [h]
structure Rsm (x : Vl) : Prop where
  d : ∃ d, Z.toD x = some d ∧ Sm d 6 1510
theorem rsm_tr {t : Tr} (h : t.Ok) : Rsm t.v := ⟨tr_sm h⟩
theorem rsms : ∀ {L : List Vl}, (∀ x ∈ L, Rsm x) → ∃ ds, Z.toDs L = some ds ∧ ds.length = L.length ∧ ∀ d ∈ ds, Sm d 6 1510
  | [], _ => ⟨[], rfl, rfl, fun _ h => nomatch h⟩
  | x :: L, h => by
    obtain ⟨d, h1, h2⟩ := (h x (List.mem_cons_self ..)).d
    obtain ⟨ds, h3, h4, h5⟩ := rsms (L := L) fun t ht => h t (List.mem_cons_of_mem _ ht)
    refine ⟨d :: ds, toDs_cons h1 h3, by rw [List.length_cons, List.length_cons, h4], fun e he => ?_⟩
    rcases List.mem_cons.mp he with rfl | he
    · exact h2
    · exact h5 e he
theorem toDm_cell {m : Mem} {q : Nat} {L : List Vl} {ds : List PyData} (h : m[q]? = some (.lst L)) (h1 : Z.toDs L = some ds) : Z.toDm m (.obj q) = some (.list ds) := by
  unfold Z.toDm
  simp only [h, h1]
theorem reprL {L : List Vl} (hL : ∀ x ∈ L, Rsm x) (hz : L.length ≤ 60) : ∃ S : Str, (∀ m, reprF [.lst L] m = some (.str S, m)) ∧ ∀ (m : Mem) (q : Nat), m[q]? = some (.lst L) → reprF [.obj q] m = some (.str S, m) := by
  obtain ⟨ds, h1, h2, h3⟩ := rsms hL
  exact ⟨(PyData.list ds).shown, fun m => repr_sm (d := .list ds) (toD_lst h1) (sm_list h3) (by decide) (by rw [h2]; omega), fun m q h => repr_sm (d := .list ds) (toDm_cell h h1) (sm_list h3) (by decide) (by rw [h2]; omega)⟩
theorem neL {L : List Vl} (hL : ∀ x ∈ L, Rsm x) (m : Mem) : neF (.lst L) (.lst L) m = some (.bl false, m) := by
  obtain ⟨ds, h1, h2, h3⟩ := rsms hL
  exact (eq_same (x := .lst L) (d := .list ds) (m := m) rfl (toD_lst h1) (sm_list h3) (by decide)).2
theorem eq_same2 {x y : Vl} {d : PyData} {m : Mem} {k n : Nat} (h : flatL x = none) (h1 : Z.toDm m x = some d) (h2 : Z.toDm m y = some d) (s : Sm d k n) (hk : k ≤ 60) : eqF x y m = some (.bl true, m) ∧ neF x y m = some (.bl false, m) := by
  have z := eq_sm (.inl h) h1 h2 s s hk hk
  rw [PySem.SeqAt.eqv_refl d s.lay] at z
  exact z
theorem neO {L : List Vl} (hL : ∀ x ∈ L, Rsm x) {m : Mem} {q : Nat} (h : m[q]? = some (.lst L)) : eqF (.obj q) (.lst L) m = some (.bl true, m) ∧ neF (.obj q) (.lst L) m = some (.bl false, m) := by
  obtain ⟨ds, h1, h2, h3⟩ := rsms hL
  exact eq_same2 (d := .list ds) rfl (toDm_cell h h1) (toD_lst h1) (sm_list h3) (by decide)
theorem sl_tl {xs : List Vl} (m : Mem) : slD (.lst xs) (some 1) none m = some (.lst xs.tail, m) := by
  show some (Vl.lst (cutZ xs (some 1) none), m) = _
  unfold cutZ
  have s1 : HT.sIx xs.length 0 (some 1) = min 1 xs.length := rfl
  have s2 : HT.sIx xs.length xs.length none = xs.length := rfl
  rw [s1, s2]
  cases xs with
  | nil => rfl
  | cons x xs =>
    rw [show min 1 (x :: xs).length = 1 by rw [List.length_cons]; omega]
    simp
theorem sl_3 {xs : List Vl} (m : Mem) : slD (.lst xs) none (some 3) m = some (.lst (xs.take 3), m) := by
  show some (Vl.lst (cutZ xs none (some 3)), m) = _
  unfold cutZ
  have s1 : HT.sIx xs.length 0 none = 0 := rfl
  have s2 : HT.sIx xs.length xs.length (some 3) = min 3 xs.length := rfl
  rw [s1, s2, List.drop_zero, Nat.sub_zero]
  rw [show List.take (min 3 xs.length) xs = List.take 3 xs by
    rw [List.take_eq_take_iff]
    omega]
theorem tail_rw {u : Str} {R : List Tr} (g : RwS u R) : RwS "" R.tail := by
  have sub : R.tail.Sublist R := List.tail_sublist R
  have d := g.ds.sub sub
  refine ⟨fun t ht => g.ok t (sub.subset ht), ⟨d.q, (fun h => ?_), (fun h => ?_)⟩, g.so.sublist (sub.map _), Nat.le_trans sub.length_le g.le⟩
  · have : hasA "" = false := by decide +kernel
    rw [this] at h
    cases h
  · have : hasB "" = false := by decide +kernel
    rw [this] at h
    cases h
def hsW : List Hz := [("Unbound", some 2, (dRet (dXf esZ "name" (dVar 2))))]
end
section
theorem st0 (m : Mem) : n_Store_init_S1 [] [] m = n_Store_init_S1_unique [] [.str ""] m := by rfl
theorem rw0 : RwS "" [] := ⟨fun t ht => (nomatch ht), ⟨by simp, fun _ => by simp, fun _ => by simp⟩, by simp, Nat.zero_le _⟩
theorem store0 (m : Mem) : n_Store_init_S1 [] [] m = some (.ok (sV "" []), m) := by
  have mk := (make_ok (u := "") (by decide) (l := []) (fun x hx => nomatch hx) (by decide) m).1 [] rfl
  rw [stV_eq (u := "") (R := []) rw0.ok rw0.ds] at mk
  rw [st0]
  exact mk
theorem mul3 (x : Vl) (m : Mem) : mulA (.lst [x]) (.int 3) m = some (.lst [x, x, x], m) := by rfl
section
variable {u : Str} {ns : List Int} {n : Nat} {R : List Tr} {CI : List Int} {m : Mem} {t : Int} {e6 e7 e10 e11 e12 e13 e14 e15 e16 : Option Vl}
end
end
section
section
variable {u : Str} {ns : List Int} {n : Nat} {R : List Tr} {CI : List Int} {m : Mem} {t : Int} {e6 e7 e10 e11 e12 e13 e14 e15 e16 : Option Vl}
def sixth : Vl := .tup [.int 1000, .int 0, .int 0]
theorem rsm_six : Rsm sixth := by
  have s0 : Sm (.int 0) 0 200 := sm_int 0 (by decide) (by decide)
  have s1 : Sm (.int 1000) 0 200 := ⟨by decide +kernel, by decide +kernel, by decide +kernel, by decide +kernel, by decide +kernel⟩
  refine ⟨_, rfl, (sm_tuple (ds := [.int 1000, .int 0, .int 0]) (k := 0) (n := 200) fun d hd => ?_).mono (by decide) (by decide)⟩
  simp only [List.mem_cons, List.not_mem_nil, or_false] at hd
  rcases hd with rfl | rfl | rfl
  · exact s1
  · exact s0
  · exact s0
end
end
section
theorem eqv_nil {L : List Vl} {ds : List PyData} (h1 : Z.toDs L = some ds) (h2 : ds.length = L.length) : PyData.eqv (.list ds) (.list []) = L.isEmpty := by
  cases L with
  | nil =>
    cases h1
    rfl
  | cons x L =>
    cases ds with
    | nil => cases h2
    | cons d ds => rfl
def tnT : DT := b2 neF (dVar 2) (dFrz (dLst (fun _ m => some (.ok [], m))))
def tnD : DS := dDrop (dM "list" (lstM appH) (dVar 3) (dCons (dM "list" (lstM popH) (dVar 2) (dCons (dCall 2 0 c_law_draw_2 (dCons (dVar 0) (dCons (dB lenF (dCons (dVar 2) (fun _ m => some (.ok [], m)))) (fun _ m => some (.ok [], m)))) dNone) (fun _ m => some (.ok [], m)))) (fun _ m => some (.ok [], m))))
section
variable {ns : List Int} {n : Nat}
end
theorem forW_inv {g : DG} {body : DS} {L : List Vl} {q : Nat} {P : Nat → Ev → Mem → Prop} (hP : ∀ i env m, P i env m → m[q]? = some (.lst L)) (step : ∀ i x env m, L[i]? = some x → P i env m → ∃ env1 env2 m2, g x env m = some (env1, m) ∧ body env1 m = some (.nx env2, m2) ∧ P (i + 1) env2 m2) : ∀ (k i : Nat) (env : Ev) (m : Mem), k + i = L.length → P i env m → ∃ env' m', forW g body (cellW q) k i env m = some (.nx env', m') ∧ P L.length env' m'
  | 0, i, env, m, hk, hp => by
    have hm := hP i env m hp
    have : i = L.length := by omega
    subst this
    refine ⟨env, m, ?_, hp⟩
    unfold forW cellW
    rw [hm]
    simp
  | k + 1, i, env, m, hk, hp => by
    have hm := hP i env m hp
    have hi : i < L.length := by omega
    have hx := List.getElem?_eq_getElem hi
    obtain ⟨env1, env2, m2, h1, h2, h3⟩ := step i _ env m hx hp
    obtain ⟨env', m', h4, h5⟩ := forW_inv hP step k (i + 1) env2 m2 (by omega) h3
    refine ⟨env', m', ?_, h5⟩
    unfold forW
    rw [show cellW q i m = some (some L[i]) by unfold cellW; rw [hm]; simp only [hx]]
    simp only [h1, h2]
    exact h4
end
end
section
section
variable {u : Str} {R : List Tr}
theorem any_q (L : List Tr) (z : Int) : ((L.map Tr.q).any fun y => decide (y = z)) = true ↔ z ∈ L.map Tr.q := by
  rw [List.any_eq_true]
  constructor
  · rintro ⟨y, hy, e⟩
    rw [← of_decide_eq_true e]
    exact hy
  · intro h
    exact ⟨z, h, decide_eq_true rfl⟩
theorem rof_z (hR : ∀ t ∈ R, t.Ok) (d : Ds u R) (z : Int) (m : Mem) : ∃ r : Vl, G_Store_row_of [sV u R, .int z] m = some (.ok r, m) ∧ isA true r .non m = some (.bl (((sortR R).map Tr.q).any fun y => decide (y = z)), m) := by
  by_cases hz : z ∈ R.map Tr.q
  · obtain ⟨t, ht, rfl⟩ := List.mem_map.mp hz
    refine ⟨t.v, row_of_at d ht (hR t ht) m, ?_⟩
    have : (((sortR R).map Tr.q).any fun y => decide (y = t.q)) = true := (any_q _ _).mpr (((sortR_perm R).map Tr.q).mem_iff.mpr hz)
    rw [this]
    rfl
  · refine ⟨.non, ?_, ?_⟩
    · by_cases h : 0 ≤ z ∧ z ≤ 999
      · exact row_of_out h.1 h.2 hz m
      · refine row_of_not ?_
        rw [value_int]
        have : (decide (0 ≤ z) && decide (z ≤ 999)) = false := by
          rw [Bool.and_eq_false_iff]
          by_cases h0 : 0 ≤ z
          · exact .inr (decide_eq_false fun h1 => h ⟨h0, h1⟩)
          · exact .inl (decide_eq_false h0)
        rw [this]
    · have : (((sortR R).map Tr.q).any fun y => decide (y = z)) = false := by
        cases e : ((sortR R).map Tr.q).any fun y => decide (y = z) with
        | false => rfl
        | true => exact absurd (((sortR_perm R).map Tr.q).mem_iff.mp ((any_q _ _).mp e)) hz
      rw [this]
      rfl
theorem contains_z (hR : ∀ t ∈ R, t.Ok) (d : Ds u R) (z : Int) (m : Mem) : G_Store_contains [sV u R, .int z] m = some (.ok (.bl (((sortR R).map Tr.q).any fun y => decide (y = z))), m) := by
  obtain ⟨r, h1, h2⟩ := rof_z hR d z m
  have z := rm_m (u := u) (R := R) (x := .int z) (m := m) []
  rw [h1] at z
  show bodyD 2 D_Store_contains [sV u R, .int _] m = _
  refine bodyD_ret ?_
  show d2 (isA true) _ (dC .non) [some (sV u R), some (.int _)] m = _
  rw [d2_ap, z, bindR_ok, show (dC .non : DE) [some (sV u R), some (.int _)] m = some (.ok .non, m) from rfl, bindR_ok, h2]
  rfl
theorem getitem_at (hR : ∀ t ∈ R, t.Ok) (d : Ds u R) {t : Tr} (ht : t ∈ R) (m : Mem) : G_Store_getitem [sV u R, .int t.q] m = some (.ok (.tup [.int t.a, .int t.b]), m) := by
  have z := rm_m (u := u) (R := R) (x := .int t.q) (m := m) [none]
  rw [row_of_at d ht (hR t ht) m] at z
  show bodyD 3 D_Store_getitem [sV u R, .int t.q] m = _
  refine body_rt ?_
  unfold D_Store_getitem
  refine seq_nx (env1 := [some (sV u R), some (.int t.q), some t.v]) (m1 := m) ?_ ?_
  · unfold dAsg
    show bindS (dMeth _ _ _ _ _ _ _ _ _ [some (sV u R), some (.int t.q), none] m) _ _ = _
    rw [z]
    rfl
  · rfl
theorem insD_s (m : Mem) : insD m (sV u R) = some (("Store" : Str), stF u R) := rfl
theorem seq_of (x : Vl) (L : List Vl) (m : Mem) (h : seqD m x = some L) (hn : ∀ xs, x ≠ .tup xs) (hs : ∀ s, x ≠ .str s) : True := trivial
end
end
section
section
variable {u : Str} {R : List Tr} {m : Mem} {x : Vl} {e3 e4 e5 e6 e7 e8 e9 : Option Vl}
abbrev dueV (R : List Tr) : Vl := .lst ((sortR R).map Tr.v)
abbrev keysV (R : List Tr) : Vl := .lst (((sortR R).map Tr.q).map Vl.int)
theorem due_ok {S : List Tr} (hR : ∀ t ∈ R, t.Ok) (p : S.Perm R) (hz : R.length ≤ 60) (hx : lsD m x = some (S.map Tr.v)) : sortUD m [x] = some ((sortR R).map Tr.v) := by
  have hS : ∀ t ∈ S, t.Ok := fun t ht => hR t (p.mem_iff.mp ht)
  have hb : (decide ((S.map Tr.v).length < 64) && (S.map Tr.v).all fun y => (tup3 y).isSome) = true := by
    rw [Bool.and_eq_true, decide_eq_true_eq, List.all_eq_true]
    exact ⟨by rw [List.length_map, p.length_eq]; omega, some3 hS⟩
  unfold sortUD
  simp only [hx]
  rw [if_pos hb, usort_perm_eq hR p, sortR_v hR]
theorem ne_str_self (a : Str) (m : Mem) : neF (.str a) (.str a) m = some (.bl false, m) := by
  rw [neF_str]
  simp
theorem ne_int_self (a : Int) (m : Mem) : neF (.int a) (.int a) m = some (.bl false, m) := by
  rw [neF_int]
  simp
theorem is0 {S : List Tr} (hR : ∀ t ∈ R, t.Ok) (p : S.Perm R) (hz : R.length ≤ 60) (hx : lsD m x = some (S.map Tr.v)) (s2 : Option Vl) (s0 : Option Vl) : D_law_is_store_0 [s0, some x, s2, e3, e4, e5, e6, e7, e8, e9] m = some (.nx [s0, some x, s2, some (dueV R), e4, e5, e6, e7, e8, e9], m) := by
  have su := due_ok hR p hz hx
  simp [D_law_is_store_0, su]
theorem is1 (hu : u ∈ UQ) (hR : ∀ t ∈ R, t.Ok) (hz : R.length ≤ 60) : D_law_is_store_1 [some (sV u R), some x, some (.str u), some (dueV R), e4, e5, e6, e7, e8, e9] m = some (.nx [some (sV u R), some x, some (.str u), some (dueV R), e4, e5, e6, e7, e8, e9], m) := by
  obtain ⟨S, hS⟩ := rows_told (sortR_ok hu hR) (by rw [(sortR_perm R).length_eq]; exact hz)
  have f1 : dFld ["Store"] "rows" (dVar 0) [some (sV u R), some x, some (.str u), some (dueV R), e4, e5, e6, e7, e8, e9] m = some (.ok (.tup ((sortR R).map Tr.v)), m) := rfl
  have f2 : dFld ["Store"] "unique" (dVar 0) [some (sV u R), some x, some (.str u), some (dueV R), e4, e5, e6, e7, e8, e9] m = some (.ok (.str u), m) := rfl
  have i1 : isiF csZ (kitT kitL) [.tup ((sortR R).map Tr.v), .ty "tuple"] m = some (.bl true, m) := rfl
  have sz : ((sortR R).map Tr.v).length ≤ sizeLine := by
    rw [List.length_map, (sortR_perm R).length_eq]
    exact Nat.le_trans hz (by decide)
  have l1 : listH m [.tup ((sortR R).map Tr.v)] = some (.ok ((sortR R).map Tr.v), m) := by
    have sz' : (sortR R).length ≤ sizeLine := by
      rw [← List.length_map (f := Tr.v)]
      exact sz
    simp [listH, seqD, sz']
  have n1 : neF (.str S) (.str S) m = some (.bl false, m) := ne_str_self S m
  have n2 : neF (.str u) (.str u) m = some (.bl false, m) := ne_str_self u m
  simp [-dFld_ap, D_law_is_store_1, f1, f2, i1, dListOf, l1, hS m, n1, n2]
theorem own_it (di : Option Vl) (env : Ev) : iOwnD "Store" I_Store_iter (dVar 0) (some (sV u R) :: env) m = some (.ok ((sortR R).map Tr.v), m) := rfl
theorem is2 (hu : u ∈ UQ) (hR : ∀ t ∈ R, t.Ok) (hz : R.length ≤ 60) : D_law_is_store_2 [some (sV u R), some x, some (.str u), some (dueV R), none, e5, e6, e7, e8, e9] m = some (.nx [some (sV u R), some x, some (.str u), some (dueV R), none, e5, e6, e7, e8, e9], m) := by
  obtain ⟨S, hS⟩ := rows_told (sortR_ok hu hR) (by rw [(sortR_perm R).length_eq]; exact hz)
  have sz : ((sortR R).map Tr.v).length ≤ sizeLine := by
    rw [List.length_map, (sortR_perm R).length_eq]
    exact Nat.le_trans hz (by decide)
  have ll : ((sortR R).map Tr.v).length = R.length := by rw [List.length_map, (sortR_perm R).length_eq]
  have lo := lenO_of (c := "Store") (gz := fun xs ys => pickL [.a 0] xs [] [] ys) (g := G_Store_len) (d := dCons (dVar 0) (fun _ m => some (.ok [], m))) (env := [some (sV u R), some x, some (.str u), some (dueV R), none, e5, e6, e7, e8, e9]) (m := m) (x := sV u R) (k := (R.length : Int)) (fs := stF u R) rfl rfl (len_ok R m) (len_bound _ (by omega) (by omega))
  have lc := lcZ_map (g := gcVar 4) (de := dVar 4) (env := [some (sV u R), some x, some (.str u), some (dueV R), none, e5, e6, e7, e8, e9]) (m := m) (ys := (sortR R).map Tr.v) (f := fun y => y) (fun y hy => ⟨[some (sV u R), some x, some (.str u), some (dueV R), some y, e5, e6, e7, e8, e9], rfl, rfl⟩)
  rw [List.map_id'] at lc
  have dl : dLc (iOwnD "Store" I_Store_iter (dVar 0)) (gcVar 4) dYes (dVar 4) ([("_law_row", 4)].map (·.2)) [some (sV u R), some x, some (.str u), some (dueV R), none, e5, e6, e7, e8, e9] m = some (.ok ((sortR R).map Tr.v), m) := by
    rw [dLc_ap, own_it none, bindR_ok, if_pos sz]
    show okR (lcZ (gcVar 4) dYes (dVar 4) [some (sV u R), some x, some (.str u), some (dueV R), none, e5, e6, e7, e8, e9] ((sortR R).map Tr.v) m) = _
    rw [lc]
    rfl
  have n1 : neF (.str S) (.str S) m = some (.bl false, m) := ne_str_self S m
  have b1 : b2 neF (dLenO "Store" (fun xs ys => pickL [.a 0] xs [] [] ys) G_Store_len (dCons (dVar 0) (fun _ m => some (.ok [], m)))) (dB lenF (dCons (dVar 3) (fun _ m => some (.ok [], m)))) [some (sV u R), some x, some (.str u), some (dueV R), none, e5, e6, e7, e8, e9] m = some (.ok false, m) := by
    rw [b2_ap, lo, bindR_ok]
    show (bindR (dB lenF (dCons (dVar 3) (fun _ m => some (.ok [], m))) [some (sV u R), some x, some (.str u), some (dueV R), none, e5, e6, e7, e8, e9] m) _) = _
    rw [show dB lenF (dCons (dVar 3) (fun _ m => some (.ok [], m))) [some (sV u R), some x, some (.str u), some (dueV R), none, e5, e6, e7, e8, e9] m = some (.ok (.int (((sortR R).map Tr.v).length : Nat)), m) from rfl, ll, bindR_ok]
    generalize ((R.length : Nat) : Int) = k
    rw [ne_int_self k m]
  have b2' : b2 neF (dB reprF (dCons (dFrz (dLc (iOwnD "Store" I_Store_iter (dVar 0)) (gcVar 4) dYes (dVar 4) ([("_law_row", 4)].map (·.2)))) (fun _ m => some (.ok [], m)))) (dB reprF (dCons (dVar 3) (fun _ m => some (.ok [], m)))) [some (sV u R), some x, some (.str u), some (dueV R), none, e5, e6, e7, e8, e9] m = some (.ok false, m) := by
    have dl' : dLc (iOwnD "Store" I_Store_iter (dVar 0)) (gcVar 4) dYes (dVar 4) [4] [some (sV u R), some x, some (.str u), some (dueV R), none, e5, e6, e7, e8, e9] m = some (.ok ((sortR R).map Tr.v), m) := dl
    simp [-dLc_ap, dl', hS m, n1]
  unfold D_law_is_store_2
  rw [dIfS_ap, tOr2_ap, b1]
  simp only [bindR_ok]
  rw [b2']
  rfl
end
end
section
theorem ixO_of {c : Str} {gz : List Vl → List Vl → List Vl} {g : FD} {da db : DE} {env : Ev} {m : Mem} {x y r : Vl} {fs : List (Str × Vl)} (ha : da env m = some (.ok x, m)) (hb : db env m = some (.ok y, m)) (hi : insD m x = some (c, fs)) (hg : g (gz [x, y] []) m = some (.ok r, m)) : dIxO c gz g da db env m = some (.ok r, m) := by
  rw [dIxO_ap, ha, bindR_ok, hb, bindR_ok]
  simp only [hi, if_true, hg]
theorem inO_of {neg : Bool} {c : Str} {gz : List Vl → List Vl → List Vl} {g : FD} {da db : DE} {env : Ev} {m : Mem} {x y : Vl} {r : Bool} {fs : List (Str × Vl)} (ha : da env m = some (.ok x, m)) (hb : db env m = some (.ok y, m)) (hi : insD m y = some (c, fs)) (hg : g (gz [y, x] []) m = some (.ok (.bl r), m)) : dInO neg c gz g da db env m = some (.ok (.bl (if neg then !r else r)), m) := by
  rw [dInO_ap, ha, bindR_ok, hb, bindR_ok]
  simp only [hi, if_true, hg]
section
variable {u : Str} {R : List Tr} {m : Mem} {x : Vl} {e3 e4 e5 e6 e7 e8 e9 : Option Vl}
theorem is3 (hz : R.length ≤ 60) : D_law_is_store_3 [some (sV u R), some x, some (.str u), some (dueV R), none, e5, e6, e7, e8, e9] m = some (.nx [some (sV u R), some x, some (.str u), some (dueV R), none, some (keysV R), e6, e7, e8, e9], m) := by
  have h := lcZ_map (g := gcVar 4) (de := d2 ixA (dVar 4) (dC (.int 0))) (env := [some (sV u R), some x, some (.str u), some (dueV R), none, e5, e6, e7, e8, e9]) (m := m) (ys := (sortR R).map Tr.v) (f := fun y => match y with
      | .tup (.int a :: _) => .int a
      | _ => .non) (fun y hy => by
    obtain ⟨t, ht, rfl⟩ := List.mem_map.mp hy
    exact ⟨[some (sV u R), some x, some (.str u), some (dueV R), some t.v, e5, e6, e7, e8, e9], rfl, rfl⟩)
  rw [List.map_map] at h
  have sz : ((sortR R).map Tr.v).length ≤ sizeLine := by
    rw [List.length_map, (sortR_perm R).length_eq]
    exact Nat.le_trans hz (by decide)
  have q : iSeqD (dVar 3) [some (sV u R), some x, some (.str u), some (dueV R), none, e5, e6, e7, e8, e9] m = some (.ok ((sortR R).map Tr.v), m) := rfl
  have l : dLc (iSeqD (dVar 3)) (gcVar 4) dYes (d2 ixA (dVar 4) (dC (.int 0))) ([("_law_row", 4)].map (·.2)) [some (sV u R), some x, some (.str u), some (dueV R), none, e5, e6, e7, e8, e9] m = some (.ok (((sortR R).map Tr.q).map Vl.int), m) := by
    rw [dLc_ap, q]
    simp only [bindR_ok, if_pos sz]
    show okR (lcZ (gcVar 4) dYes (d2 ixA (dVar 4) (dC (.int 0))) [some (sV u R), some x, some (.str u), some (dueV R), none, e5, e6, e7, e8, e9] ((sortR R).map Tr.v) m) = _
    rw [h, List.map_map]
    rfl
  unfold D_law_is_store_3 dAsgL
  rw [l]
  rfl
theorem near_1 (hR : ∀ t ∈ R, t.Ok) (d : Ds u R) (z : Int) : D_law_is_store_4_1_0 [some (sV u R), some x, some (.str u), some (dueV R), none, some (keysV R), e6, e7, e8, some (.int z)] m = some (.nx [some (sV u R), some x, some (.str u), some (dueV R), none, some (keysV R), e6, e7, e8, some (.int z)], m) := by
  have i1 := inO_of (neg := false) (c := "Store") (gz := fun xs ys => pickL [.a 0, .a 1] xs [] [] ys) (g := G_Store_contains) (da := dVar 9) (db := dVar 0) (env := [some (sV u R), some x, some (.str u), some (dueV R), none, some (keysV R), e6, e7, e8, some (.int z)]) (m := m) (x := .int z) (y := sV u R) (fs := stF u R) rfl rfl rfl (contains_z hR d z m)
  have n0 := in_ints false z ((sortR R).map Tr.q) m
  simp only [Bool.false_eq_true, if_false] at i1 n0
  have t : b2 neF (dInO false "Store" (fun xs ys => pickL [.a 0, .a 1] xs [] [] ys) G_Store_contains (dVar 9) (dVar 0)) (d2 (inA false) (dVar 9) (dVar 5)) [some (sV u R), some x, some (.str u), some (dueV R), none, some (keysV R), e6, e7, e8, some (.int z)] m = some (.ok false, m) := by
    have d5 : d2 (inA false) (dVar 9) (dVar 5) [some (sV u R), some x, some (.str u), some (dueV R), none, some (keysV R), e6, e7, e8, some (.int z)] m = some (.ok (.bl (((sortR R).map Tr.q).any fun y => decide (y = z))), m) := by
      show okR (inA false (.int z) (keysV R) m) = _
      rw [n0]
      rfl
    rw [b2_ap, i1, bindR_ok, d5, bindR_ok, neF_bl]
    simp
  unfold D_law_is_store_4_1_0
  rw [dIfS_ap, t]
  rfl
theorem near_all (hR : ∀ t ∈ R, t.Ok) (d : Ds u R) : ∀ (zs : List Int) (e9 : Option Vl), ∃ e9', forL (gVar 9) D_law_is_store_4_1_0 (zs.map .int) [some (sV u R), some x, some (.str u), some (dueV R), none, some (keysV R), e6, e7, e8, e9] m = some (.nx [some (sV u R), some x, some (.str u), some (dueV R), none, some (keysV R), e6, e7, e8, e9'], m)
  | [], e9 => ⟨e9, rfl⟩
  | z :: zs, e9 => by
    obtain ⟨e', h⟩ := near_all hR d zs (some (.int z))
    refine ⟨e', ?_⟩
    rw [List.map_cons]
    unfold forL
    rw [show gVar 9 (.int z) [some (sV u R), some x, some (.str u), some (dueV R), none, some (keysV R), e6, e7, e8, e9] m = some ([some (sV u R), some x, some (.str u), some (dueV R), none, some (keysV R), e6, e7, e8, some (.int z)], m) from rfl]
    simp only [near_1 hR d z]
    exact h
theorem told2 {a b : Int} (ha : 0 ≤ a ∧ a ≤ 999) (hb : 0 ≤ b ∧ b ≤ 999) : Told (.tup [.int a, .int b]) := by
  obtain ⟨dd, h1, h2⟩ := d_tup (L := [.int a, .int b]) (fun y hy => by
    simp only [List.mem_cons, List.not_mem_nil, or_false] at hy
    rcases hy with rfl | rfl
    · exact sd_int ha.1 ha.2
    · exact sd_int hb.1 hb.2) (by show 2 ≤ 10; decide)
  exact ⟨_, fun m => repr_sm h1 h2 (by decide) (by decide)⟩
theorem is40 (hR : ∀ t ∈ R, t.Ok) (d : Ds u R) {t : Tr} (ht : t ∈ R) : D_law_is_store_4_0 [some (sV u R), some x, some (.str u), some (dueV R), none, some (keysV R), some (.int t.q), some (.int t.a), some (.int t.b), e9] m = some (.nx [some (sV u R), some x, some (.str u), some (dueV R), none, some (keysV R), some (.int t.q), some (.int t.a), some (.int t.b), e9], m) := by
  have hk := hR t ht
  obtain ⟨S, hS⟩ := told2 hk.a hk.b
  have ix := ixO_of (c := "Store") (gz := fun xs ys => pickL [.a 0, .a 1] xs [] [] ys) (g := G_Store_getitem) (da := dVar 0) (db := dVar 6) (env := [some (sV u R), some x, some (.str u), some (dueV R), none, some (keysV R), some (.int t.q), some (.int t.a), some (.int t.b), e9]) (m := m) (x := sV u R) (y := .int t.q) (fs := stF u R) rfl rfl rfl (getitem_at hR d ht m)
  have i1 := inO_of (neg := true) (c := "Store") (gz := fun xs ys => pickL [.a 0, .a 1] xs [] [] ys) (g := G_Store_contains) (da := dVar 6) (db := dVar 0) (env := [some (sV u R), some x, some (.str u), some (dueV R), none, some (keysV R), some (.int t.q), some (.int t.a), some (.int t.b), e9]) (m := m) (x := .int t.q) (y := sV u R) (fs := stF u R) rfl rfl rfl (contains_z hR d t.q m)
  have hin : (((sortR R).map Tr.q).any fun y => decide (y = t.q)) = true := (any_q _ _).mpr (((sortR_perm R).map Tr.q).mem_iff.mpr (List.mem_map.mpr ⟨t, ht, rfl⟩))
  rw [hin] at i1
  simp only [if_true, Bool.not_true] at i1
  have is : isiF csZ (kitT kitL) [.tup [.int t.a, .int t.b], .ty "tuple"] m = some (.bl true, m) := rfl
  have n1 : neF (.str S) (.str S) m = some (.bl false, m) := ne_str_self S m
  simp [-dIxO_ap, -dInO_ap, D_law_is_store_4_0, ix, i1, is, hS m, n1]
theorem is41 (hR : ∀ t ∈ R, t.Ok) (d : Ds u R) {t : Tr} (ht : t ∈ R) : ∃ e9', D_law_is_store_4_1 [some (sV u R), some x, some (.str u), some (dueV R), none, some (keysV R), some (.int t.q), some (.int t.a), some (.int t.b), e9] m = some (.nx [some (sV u R), some x, some (.str u), some (dueV R), none, some (keysV R), some (.int t.q), some (.int t.a), some (.int t.b), e9'], m) := by
  obtain ⟨e9', h⟩ := near_all (m := m) (x := x) (e6 := some (.int t.q)) (e7 := some (.int t.a)) (e8 := some (.int t.b)) hR d [t.q - 1, t.q + 1, t.q + 1000, t.q - 1000] e9
  refine ⟨e9', ?_⟩
  rw [← h]
  unfold D_law_is_store_4_1
  rw [dFor_ap]
  rfl
end
end
section
section
variable {u : Str} {R : List Tr} {m : Mem} {x : Vl} {e3 e4 e5 e6 e7 e8 e9 : Option Vl}
def isG : DG := gTupD (gsCons (gVar 6) (gsCons (gVar 7) (gsCons (gVar 8) gsNil)))
def isB : DS := dSeq D_law_is_store_4_0 D_law_is_store_4_1
theorem is4_loop (hR : ∀ t ∈ R, t.Ok) (d : Ds u R) : ∀ (L : List Tr) (e6 e7 e8 e9 : Option Vl), (∀ t ∈ L, t ∈ R) → ∃ f6 f7 f8 f9, forL isG isB (L.map Tr.v) [some (sV u R), some x, some (.str u), some (dueV R), none, some (keysV R), e6, e7, e8, e9] m = some (.nx [some (sV u R), some x, some (.str u), some (dueV R), none, some (keysV R), f6, f7, f8, f9], m)
  | [], e6, e7, e8, e9, _ => ⟨e6, e7, e8, e9, rfl⟩
  | t :: L, e6, e7, e8, e9, h => by
    have ht := h t List.mem_cons_self
    obtain ⟨g9, h1⟩ := is41 (m := m) (x := x) (e9 := e9) hR d ht
    obtain ⟨f6, f7, f8, f9, h2⟩ := is4_loop hR d L (some (.int t.q)) (some (.int t.a)) (some (.int t.b)) g9 fun s hs => h s (List.mem_cons_of_mem _ hs)
    refine ⟨f6, f7, f8, f9, ?_⟩
    rw [List.map_cons]
    unfold forL
    rw [show isG t.v [some (sV u R), some x, some (.str u), some (dueV R), none, some (keysV R), e6, e7, e8, e9] m = some ([some (sV u R), some x, some (.str u), some (dueV R), none, some (keysV R), some (.int t.q), some (.int t.a), some (.int t.b), e9], m) from rfl]
    have b : isB [some (sV u R), some x, some (.str u), some (dueV R), none, some (keysV R), some (.int t.q), some (.int t.a), some (.int t.b), e9] m = some (.nx [some (sV u R), some x, some (.str u), some (dueV R), none, some (keysV R), some (.int t.q), some (.int t.a), some (.int t.b), g9], m) := seq_nx (is40 hR d ht) h1
    simp only [b]
    exact h2
/-- the law's question: is the store made of these rows, whatever their order -/
theorem is_store_ok {S : List Tr} (hu : u ∈ UQ) (hR : ∀ t ∈ R, t.Ok) (d : Ds u R) (hz : R.length ≤ 60) (p : S.Perm R) (hx : lsD m x = some (S.map Tr.v)) : c_law_is_store_3 [sV u R, x, .str u] [] m = some (.ok (.bl true), m) := by
  obtain ⟨f6, f7, f8, f9, h⟩ := is4_loop (m := m) (x := x) hR d (sortR R) none none none none fun t ht => (sortR_perm R).mem_iff.mp ht
  have h4 : D_law_is_store_4 [some (sV u R), some x, some (.str u), some (dueV R), none, some (keysV R), none, none, none, none] m = some (.nx [some (sV u R), some x, some (.str u), some (dueV R), none, some (keysV R), f6, f7, f8, f9], m) := by
    rw [← h]
    unfold D_law_is_store_4
    rw [dFor_ap]
    rfl
  show bodyD 10 D_law_is_store [sV u R, x, .str u] m = _
  refine body_rt ?_
  unfold D_law_is_store
  refine seq_nx (is0 hR p hz hx _ _) (seq_nx (is1 hu hR hz) (seq_nx (is2 hu hR hz) (seq_nx (is3 hz) (seq_nx h4 rfl))))
end
end
section
theorem appB2 (ys : List Vl) (x : Vl) (h : ys.length ≤ 1000) : appH ys [x] = some (.non, ys ++ [x]) := by
  have : ys.length < sizeLine := Nat.lt_of_le_of_lt h (by decide)
  simp [appH, this]
theorem erase_perm {α : Type} : ∀ {xs : List α} {i : Nat} {x : α}, xs[i]? = some x → (x :: xs.eraseIdx i).Perm xs
  | [], _, _, h => by cases h
  | y :: l, 0, x, h => by
    rw [List.getElem?_cons_zero] at h
    cases h
    exact .refl _
  | y :: l, i + 1, x, h => by
    rw [List.getElem?_cons_succ] at h
    rw [List.eraseIdx_cons_succ]
    exact (List.Perm.swap ..).trans ((erase_perm h).cons y)
section
variable {ns : List Int} {n : Nat}
theorem tn_step {p q : Nat} {xs ys : List Vl} {m : Mem} (hb : Bag ns n m) (hpn : p ≠ n) (hqn : q ≠ n) (hpq : p ≠ q) (hp : m[p]? = some (.lst xs)) (hq : m[q]? = some (.lst ys)) (h0 : 0 < xs.length) (h1 : xs.length ≤ 100) (h2 : ys.length ≤ 100) (e1 : Option Vl) : ∃ (i : Nat) (x : Vl) (m1 : Mem), xs[i]? = some x ∧ tnD [some (.obj n), e1, some (.obj p), some (.obj q)] m = some (.nx [some (.obj n), e1, some (.obj p), some (.obj q)], (m1.set p (.lst (xs.eraseIdx i))).set q (.lst (ys ++ [x]))) ∧ Fr ns n m m1 := by
  obtain ⟨d, m1, d0, d1, c0, F0⟩ := draw_i hb (xs.length : Int) (by omega) (by omega)
  have hi : d.toNat < xs.length := by omega
  have hp1 := F0.at hp hpn
  have hq1 := F0.at hq hqn
  have hpop := lstM_z hp1 (pop_i xs d d0 d1 (by omega) (List.getElem?_eq_getElem hi))
  have hq2 : (m1.set p (.lst (xs.eraseIdx d.toNat)))[q]? = some (.lst ys) := by
    rw [List.getElem?_set_ne hpq]
    exact hq1
  have happ := lstM_z hq2 (appB2 ys xs[d.toNat] (by omega))
  refine ⟨d.toNat, xs[d.toNat], m1, List.getElem?_eq_getElem hi, ?_, F0⟩
  simp [tnD, tyM_obj hp, tyM_obj hq, tyM_obj hp1, tyM_obj hq1, tyM_obj hq2, lenF_obj hp, c0, hpop, happ]
theorem cell_nil2 {xs : List Vl} (hs : ∀ x ∈ xs, Rsm x) {m : Mem} {p : Nat} (hp : m[p]? = some (.lst xs)) : neF (.obj p) (.lst []) m = some (.bl (!xs.isEmpty), m) := by
  obtain ⟨ds, h1, h2, h3⟩ := rsms hs
  exact cell_nil h1 h2 (fun d hd => (h3 d hd).mono (by decide) (by decide)) hp
theorem tn_loop {p q : Nat} (hpn : p ≠ n) (hqn : q ≠ n) (hpq : p ≠ q) (e1 : Option Vl) : ∀ (c k : Nat) (xs ys : List Vl) (m : Mem), xs.length = c → c < k → (∀ x ∈ xs, Rsm x) → Bag ns n m → m[p]? = some (.lst xs) → m[q]? = some (.lst ys) → xs.length + ys.length ≤ 100 → ∃ (ys' : List Vl) (m' : Mem), whileL tnT tnD k [some (.obj n), e1, some (.obj p), some (.obj q)] m = some (.nx [some (.obj n), e1, some (.obj p), some (.obj q)], m') ∧ m'[q]? = some (.lst ys') ∧ ys'.Perm (xs ++ ys) ∧ Bag ns n m' ∧ m.length ≤ m'.length ∧ ∀ j, j ≠ n → j ≠ p → j ≠ q → j < m.length → m'[j]? = m[j]?
  | 0, k + 1, xs, ys, m, hc, hk, hs, hb, hp, hq, hz => by
    obtain rfl := List.length_eq_zero_iff.mp hc
    have t : tnT [some (.obj n), e1, some (.obj p), some (.obj q)] m = some (.ok false, m) := by
      have := cell_nil2 hs hp
      simp [tnT, this]
    exact ⟨ys, m, whileL_f t, hq, .refl _, hb, Nat.le_refl _, fun _ _ _ _ _ => rfl⟩
  | c + 1, k + 1, xs, ys, m, hc, hk, hs, hb, hp, hq, hz => by
    have t : tnT [some (.obj n), e1, some (.obj p), some (.obj q)] m = some (.ok true, m) := by
      have h := cell_nil2 hs hp
      have he : xs.isEmpty = false := by
        cases xs with
        | nil => cases hc
        | cons _ _ => rfl
      rw [he] at h
      simp [tnT, h]
    obtain ⟨i, x, m1, hx, b, F⟩ := tn_step hb hpn hqn hpq hp hq (by omega) (by omega) (by omega) e1
    have hil := getlt hx
    have hl := List.length_eraseIdx_of_lt hil
    have hp1 := F.at hp hpn
    have hq1 := F.at hq hqn
    have a1 : ((m1.set p (.lst (xs.eraseIdx i))).set q (.lst (ys ++ [x])))[p]? = some (.lst (xs.eraseIdx i)) := by
      rw [List.getElem?_set_ne (Ne.symm hpq)]
      exact get_set hp1
    have a2 : ((m1.set p (.lst (xs.eraseIdx i))).set q (.lst (ys ++ [x])))[q]? = some (.lst (ys ++ [x])) := by
      refine get_set (z := .lst ys) ?_
      rw [List.getElem?_set_ne hpq]
      exact hq1
    obtain ⟨ys', m', r1, r2, r3, r5, r6, r7⟩ := tn_loop hpn hqn hpq e1 c k (xs.eraseIdx i) (ys ++ [x]) _ (by omega) (by omega) (fun y hy => hs y (List.mem_of_mem_eraseIdx hy)) ((F.bag.set hpn _).set hqn _) a1 a2 (by rw [List.length_append, List.length_singleton]; omega)
    have pe : (x :: xs.eraseIdx i).Perm xs := erase_perm hx
    refine ⟨ys', m', ?_, r2, r3.trans ?_, r5, ?_, fun j j1 j2 j3 j4 => ?_⟩
    · rw [whileL_t t b]
      exact r1
    · refine .trans ?_ (pe.append_right ys)
      rw [← List.append_assoc]
      exact List.perm_append_comm
    · have := F.le
      rw [List.length_set, List.length_set] at r6
      omega
    · rw [r7 j j1 j2 j3 (by rw [List.length_set, List.length_set]; have := F.le; omega), List.getElem?_set_ne (Ne.symm j3), List.getElem?_set_ne (Ne.symm j2)]
      exact F.keep j j1 j4
def unv : Vl → Tr
  | .tup [.int q, .int a, .int b] => ⟨q, a, b⟩
  | _ => ⟨0, 0, 0⟩
theorem perm_v {L : List Vl} {R : List Tr} (p : L.Perm (R.map Tr.v)) : ∃ S : List Tr, S.Perm R ∧ L = S.map Tr.v := by
  refine ⟨L.map unv, ?_, ?_⟩
  · have z := p.map unv
    rw [List.map_map] at z
    have e : R.map (unv ∘ Tr.v) = R := by
      conv => rhs; rw [← List.map_id R]
      exact List.map_congr_left fun t _ => rfl
    rw [e] at z
    exact z
  · rw [List.map_map]
    conv => lhs; rw [← List.map_id L]
    refine List.map_congr_left fun y hy => ?_
    obtain ⟨t, _, rfl⟩ := List.mem_map.mp (p.mem_iff.mp hy)
    rfl
theorem turned_ok {m : Mem} (hb : Bag ns n m) {R : List Tr} (hR : ∀ t ∈ R, t.Ok) (hl : R.length ≤ 50) {p0 : Nat} (h0 : m[p0]? = some (.lst (R.map Tr.v))) : ∃ (q : Nat) (S : List Tr) (m' : Mem), c_law_turned_2 [.obj n, .obj p0] [] m = some (.ok (.obj q), m') ∧ m'[q]? = some (.lst (S.map Tr.v)) ∧ S.Perm R ∧ m.length ≤ q ∧ q ≠ n ∧ Fr ns n m m' := by
  have hlt := hb.lt
  have hb2 := hb.app [Cell.lst (R.map Tr.v), .lst []]
  have a1 : (m ++ [Cell.lst (R.map Tr.v), .lst []])[m.length]? = some (.lst (R.map Tr.v)) := by simp
  have a2 : (m ++ [Cell.lst (R.map Tr.v), .lst []])[m.length + 1]? = some (.lst []) := by
    rw [List.getElem?_append_right (by omega)]
    simp
  have hs : ∀ x ∈ R.map Tr.v, Rsm x := fun x hx => by
    obtain ⟨t, ht, rfl⟩ := List.mem_map.mp hx
    exact rsm_tr (hR t ht)
  have hll : (R.map Tr.v).length = R.length := List.length_map _
  obtain ⟨L', m', r1, r2, r3, r5, r6, r7⟩ := tn_loop (p := m.length) (q := m.length + 1) (by omega) (by omega) (by omega) (some (.obj p0)) (R.map Tr.v).length 100 (R.map Tr.v) [] _ rfl (by omega) hs hb2 a1 a2 (by rw [List.length_nil]; omega)
  rw [List.append_nil] at r3
  obtain ⟨S, pS, rfl⟩ := perm_v r3
  refine ⟨m.length + 1, S, m', ?_, r2, pS, by omega, by omega, ⟨r5, ?_, fun j j1 j2 => ?_⟩⟩
  · show bodyD 4 (dSeq (dPar 2 3 (dCons (dNew (dListOf (dCons (dVar 1) (fun _ m => some (.ok [], m))))) (dCons (dNew (dLst (fun _ m => some (.ok [], m)))) (fun _ m => some (.ok [], m))))) (dSeq (dWhile 100 tnT tnD) (dRet (dVar 3)))) [.obj n, .obj p0] m = _
    have r1 : dWhile 100 tnT tnD [some (.obj n), some (.obj p0), some (.obj m.length), some (.obj (m.length + 1))] (m ++ [Cell.lst (R.map Tr.v), .lst []]) = some (.nx [some (.obj n), some (.obj p0), some (.obj m.length), some (.obj (m.length + 1))], m') := r1
    have z : (R.map Tr.v).length ≤ sizeLine := le_size (by omega)
    have e : ∀ (d : Ev), dListOf (dCons (dVar 1) fun _ m => some (.ok [], m)) (some (.obj n) :: some (.obj p0) :: d) m = some (.ok (R.map Tr.v), m) := fun d => by
      have sq : seqD m (.obj p0) = some (R.map Tr.v) := seq_i2 h0
      simp only [dListOf, dCons_ap, dVar_s, dVar_z, bindR_ok, listH, sq, if_pos z]
    simp [bodyD, startZ, dPar, e, r1]
  · rw [List.length_append] at r6
    omega
  · rw [r7 j j1 (by omega) (by omega) (by rw [List.length_append]; omega), List.getElem?_append_left j2]
end
end
section
def dat (t : Tr) : PyData := .tuple [.int t.q, .int t.a, .int t.b]
theorem toDs_rows : ∀ A : List Tr, Z.toDs (A.map Tr.v) = some (A.map dat)
  | [] => rfl
  | t :: A => by
    rw [List.map_cons, List.map_cons]
    unfold Z.toDs
    rw [toDs_rows A, show Z.toD t.v = some (dat t) from rfl]
instance : DecidableEq Tr := fun s t => if h : s.q = t.q ∧ s.a = t.a ∧ s.b = t.b then .isTrue (by
    obtain ⟨h1, h2, h3⟩ := h
    cases s
    cases t
    simp only at h1 h2 h3
    subst h1
    subst h2
    subst h3
    rfl) else .isFalse (fun e => h (by
    subst e
    exact ⟨rfl, rfl, rfl⟩))
theorem tr_eq {s t : Tr} : (decide (s.q = t.q) && (decide (s.a = t.a) && decide (s.b = t.b))) = decide (s = t) := by
  obtain ⟨a, b, c⟩ := s
  obtain ⟨x, y, z⟩ := t
  by_cases h1 : a = x <;> by_cases h2 : b = y <;> by_cases h3 : c = z <;> simp [h1, h2, h3]
theorem eqv_dat (s t : Tr) : PyData.eqv (dat s) (dat t) = decide (s = t) := by
  rw [← tr_eq]
  simp [dat, PyData.eqv, PyData.eqvAll, Bool.beq_eq_decide_eq]
theorem eqvAll_dat : ∀ A B : List Tr, PyData.eqvAll (A.map dat) (B.map dat) = decide (A = B)
  | [], [] => rfl
  | [], _ :: _ => rfl
  | _ :: _, [] => rfl
  | s :: A, t :: B => by
    rw [List.map_cons, List.map_cons]
    unfold PyData.eqvAll
    rw [eqvAll_dat A B, eqv_dat]
    by_cases h1 : s = t <;> by_cases h2 : A = B <;> simp [h1, h2]
theorem rows_cmp {A B : List Tr} (hA : ∀ t ∈ A, t.Ok) (hB : ∀ t ∈ B, t.Ok) (m : Mem) : eqF (.tup (A.map Tr.v)) (.tup (B.map Tr.v)) m = some (.bl (decide (A = B)), m) := by
  have sA : ∀ {L : List Tr}, (∀ t ∈ L, t.Ok) → ∃ n, Sm (.tuple (L.map dat)) 7 n := fun {L} hL => by
    obtain ⟨ds, h1, _, h3⟩ := rows_sm hL
    rw [toDs_rows] at h1
    cases h1
    exact ⟨_, sm_tuple h3⟩
  have tD : ∀ L : List Tr, Z.toDm m (.tup (L.map Tr.v)) = some (.tuple (L.map dat)) := fun L => toD_tup (toDs_rows L)
  obtain ⟨n1, s1⟩ := sA hA
  obtain ⟨n2, s2⟩ := sA hB
  have z := (eq_sm (x := .tup (A.map Tr.v)) (y := .tup (B.map Tr.v)) (m := m) (.inl rfl) (tD A) (tD B) s1 s2 (by decide) (by decide)).1
  rw [show PyData.eqv (.tuple (A.map dat)) (.tuple (B.map dat)) = PyData.eqvAll (A.map dat) (B.map dat) from by simp [PyData.eqv], eqvAll_dat] at z
  exact z
section
variable {u v : Str} {R S : List Tr} {m : Mem}
theorem eq_gen (hu : u ∈ UQ) (hv : v ∈ UQ) (hR : ∀ t ∈ R, t.Ok) (hS : ∀ t ∈ S, t.Ok) (m : Mem) : G_Store_eq [sV u R, sV v S] m = some (.ok (.bl (decide (sortR R = sortR S) && (u == v))), m) := by
  have e := rows_cmp (sortR_ok hu hR) (sortR_ok hv hS) m
  have i : isiF csZ (kitT kitL) [sV v S, .glo "Store"] m = some (.bl true, m) := by
    show isiF csZ (kitT kitL) [.ins "Store" _, .glo "Store"] m = _
    rfl
  have f1 : dFld ["Store"] "rows" (dVar 0) [some (sV u R), some (sV v S)] m = some (.ok (.tup ((sortR R).map Tr.v)), m) := rfl
  have f2 : dFld ["Store"] "rows" (dVar 1) [some (sV u R), some (sV v S)] m = some (.ok (.tup ((sortR S).map Tr.v)), m) := rfl
  have f3 : dFld ["Store"] "unique" (dVar 0) [some (sV u R), some (sV v S)] m = some (.ok (.str u), m) := rfl
  have f4 : dFld ["Store"] "unique" (dVar 1) [some (sV u R), some (sV v S)] m = some (.ok (.str v), m) := rfl
  show bodyD 2 D_Store_eq [sV u R, sV v S] m = _
  cases hd : decide (sortR R = sortR S) with
  | false =>
    rw [hd] at e
    simp [bodyD, startZ, D_Store_eq, -dFld_ap, f1, f2, f3, f4, i, e]
  | true =>
    rw [hd] at e
    simp [bodyD, startZ, D_Store_eq, -dFld_ap, f1, f2, f3, f4, i, e]
theorem cmp_gen (hu : u ∈ UQ) (hv : v ∈ UQ) (hR : ∀ t ∈ R, t.Ok) (hS : ∀ t ∈ S, t.Ok) {da db : DE} {env : Ev} {m m1 m2 : Mem} (ha : da env m = some (.ok (sV u R), m1)) (hb : db env m1 = some (.ok (sV v S), m2)) : dCmpO "Store" csZ tsZ (fun xs ys => pickL [.a 0, .a 1] xs [] [] ys) G_Store_eq da db env m = some (.ok (.bl (decide (sortR R = sortR S) && (u == v))), m2) := by
  unfold dCmpO
  rw [ha, bindR_ok, hb, bindR_ok]
  rw [← eq_gen hu hv hR hS m2]
  rfl
theorem of_perm (hu : u ∈ UQ) (hR : ∀ t ∈ R, t.Ok) (d : Ds u R) (hz : R.length ≤ 60) (p : S.Perm R) {x : Vl} (hx : seqD m x = some (S.map Tr.v)) : G_Store_of [x, .str u] m = some (.ok (sV u R), m) := by
  have hS : ∀ t ∈ S, t.Ok := fun t ht => hR t (p.mem_iff.mp ht)
  have hl : ∀ y ∈ S.map It.ok, y.Ok := fun y hy => by
    obtain ⟨t, ht, rfl⟩ := List.mem_map.mp hy
    exact hS t ht
  have em : (S.map It.ok).map It.v = S.map Tr.v := by
    rw [List.map_map]
    rfl
  obtain ⟨h1, _⟩ := of_ok hu hl (by rw [List.length_map, p.length_eq]; exact hz) (m := m) (x := x) (by rw [em]; exact hx)
  have e := h1 _ (goS_ds (d.perm p))
  rw [stV_eq hS (d.perm p), sV_perm hR p] at e
  exact e
theorem smeth_of0 {x : Vl} {da : DE} {env : Ev} {m m1 : Mem} {r : Z.R Vl × Mem} (ha : da env m = some (.ok x, m1)) (h : G_Store_of [x, .str ""] m1 = some r) : dSMeth "Store" 1 0 (fun xs ys => pickL [.a 0, .m 0] xs [] [.str ""] ys) G_Store_of (dC (.glo "Store")) (dCons da (fun _ m => some (.ok [], m))) dNone env m = some r := by
  unfold dSMeth
  simp only [dC_ap, bindR_ok, if_true, dCons_ap, ha, dNone_ap, List.length_cons, List.length_nil, and_self]
  exact h
theorem smeth_of1 {x uv : Vl} {da dk : DE} {env : Ev} {m m1 : Mem} {r : Z.R Vl × Mem} (ha : da env m = some (.ok x, m1)) (hk : dk env m1 = some (.ok uv, m1)) (h : G_Store_of [x, uv] m1 = some r) : dSMeth "Store" 1 1 (fun xs ys => pickL [.a 0, .k 0] xs [] [] ys) G_Store_of (dC (.glo "Store")) (dCons da (fun _ m => some (.ok [], m))) (dCons dk (fun _ m => some (.ok [], m))) env m = some r := by
  unfold dSMeth
  simp only [dC_ap, bindR_ok, if_true, dCons_ap, ha, hk, List.length_cons, List.length_nil, and_self]
  exact h
/-- C(*rows, unique=u), of rows told one by one -/
theorem make_rows (hu : u ∈ UQ) (hR : ∀ t ∈ R, t.Ok) (d : Ds u R) (hz : R.length ≤ 60) (m : Mem) : n_Store_init_S1_unique (R.map Tr.v) [.str u] m = some (.ok (sV u R), m) := by
  have hl : ∀ y ∈ R.map It.ok, y.Ok := fun y hy => by
    obtain ⟨t, ht, rfl⟩ := List.mem_map.mp hy
    exact hR t ht
  have em : (R.map It.ok).map It.v = R.map Tr.v := by
    rw [List.map_map]
    rfl
  obtain ⟨h1, _⟩ := make_ok hu hl (by rw [List.length_map]; exact hz) m
  have e := h1 _ (goS_ds d)
  rw [em, stV_eq hR d] at e
  exact e
end
end
section
section
variable {u : Str} {ns : List Int} {n p q : Nat} {R : List Tr} {m : Mem} {t : Int} {S0 : Str} {e5 e6 e7 e8 e9 e10 e11 e12 e13 e14 : Option Vl}
theorem lsD_cell {L : List Vl} (h : m[q]? = some (.lst L)) : lsD m (.obj q) = some L := by
  unfold lsD
  simp only [h]
theorem rsm_all (hR : ∀ t ∈ R, t.Ok) : ∀ x ∈ R.map Tr.v, Rsm x := fun x hx => by
  obtain ⟨t, ht, rfl⟩ := List.mem_map.mp hx
  exact rsm_tr (hR t ht)
theorem t3 (hb : Bag ns n m) (hR : ∀ t ∈ R, t.Ok) (hz : R.length ≤ 50) (hp : m[p]? = some (.lst (R.map Tr.v))) : ∃ (q : Nat) (S : List Tr) (m' : Mem), D_law_0_3 [some (.frl (ns.map .int)), some (.int t), some (.obj n), some (.str u), some (.obj p), e5, e6, e7, e8, e9, e10, e11, e12, e13, e14] m = some (.nx [some (.frl (ns.map .int)), some (.int t), some (.obj n), some (.str u), some (.obj p), some (.obj q), e6, e7, e8, e9, e10, e11, e12, e13, e14], m') ∧ m'[q]? = some (.lst (S.map Tr.v)) ∧ S.Perm R ∧ m.length ≤ q ∧ q ≠ n ∧ Fr ns n m m' := by
  obtain ⟨q, S, m', c, h1, h2, h3, h4, F⟩ := turned_ok hb hR hz hp
  exact ⟨q, S, m', by simp [D_law_0_3, c], h1, h2, h3, h4, F⟩
theorem t4 {S : List Tr} (hR : ∀ t ∈ S, t.Ok) (hz : S.length ≤ 50) (hq : m[q]? = some (.lst (S.map Tr.v))) : ∃ S0 : Str, reprF [.obj q] m = some (.str S0, m) ∧ D_law_0_4 [some (.frl (ns.map .int)), some (.int t), some (.obj n), some (.str u), some (.obj p), some (.obj q), e6, e7, e8, e9, e10, e11, e12, e13, e14] m = some (.nx [some (.frl (ns.map .int)), some (.int t), some (.obj n), some (.str u), some (.obj p), some (.obj q), some (.str S0), e7, e8, e9, e10, e11, e12, e13, e14], m) := by
  obtain ⟨S0, _, h⟩ := reprL (rsm_all hR) (by rw [List.length_map]; omega)
  have h := h m q hq
  exact ⟨S0, h, by simp [D_law_0_4, h]⟩
theorem t5 {S : List Tr} (hu : u ∈ UQ) (hR : ∀ t ∈ R, t.Ok) (d : Ds u R) (hz : R.length ≤ 50) (pe : S.Perm R) (hq : m[q]? = some (.lst (S.map Tr.v))) : D_law_0_5 [some (.frl (ns.map .int)), some (.int t), some (.obj n), some (.str u), some (.obj p), some (.obj q), some (.str S0), e7, e8, e9, e10, e11, e12, e13, e14] m = some (.nx [some (.frl (ns.map .int)), some (.int t), some (.obj n), some (.str u), some (.obj p), some (.obj q), some (.str S0), some (sV u R), e8, e9, e10, e11, e12, e13, e14], m) := by
  have o := of_perm (m := m) hu hR d (by omega) pe (seq_i2 hq)
  have s := smeth_of1 (da := dVar 5) (dk := dVar 3) (env := [some (.frl (ns.map .int)), some (.int t), some (.obj n), some (.str u), some (.obj p), some (.obj q), some (.str S0), e7, e8, e9, e10, e11, e12, e13, e14]) (m := m) (m1 := m) rfl rfl o
  simp [-dSMeth_ap, D_law_0_5, s]
theorem t6 (hu : u ∈ UQ) (hR : ∀ t ∈ R, t.Ok) (d : Ds u R) (hz : R.length ≤ 50) (hp : m[p]? = some (.lst (R.map Tr.v))) (hs : reprF [.obj q] m = some (.str S0, m)) : D_law_0_6 [some (.frl (ns.map .int)), some (.int t), some (.obj n), some (.str u), some (.obj p), some (.obj q), some (.str S0), some (sV u R), e8, e9, e10, e11, e12, e13, e14] m = some (.nx [some (.frl (ns.map .int)), some (.int t), some (.obj n), some (.str u), some (.obj p), some (.obj q), some (.str S0), some (sV u R), e8, e9, e10, e11, e12, e13, e14], m) := by
  have i := is_store_ok (m := m) (x := .obj p) hu hR d (by omega) (.refl _) (lsD_cell hp)
  simp [D_law_0_6, hs, i]
def zeroV : Vl := .tup [.int 0, .int 0, .int 0]
theorem t7 {L : List Vl} (hq : m[q]? = some (.lst L)) (hl : L.length ≤ 100) : D_law_0_7 [some (.frl (ns.map .int)), some (.int t), some (.obj n), some (.str u), some (.obj p), some (.obj q), some (.str S0), some (sV u R), e8, e9, e10, e11, e12, e13, e14] m = some (.nx [some (.frl (ns.map .int)), some (.int t), some (.obj n), some (.str u), some (.obj p), some (.obj q), some (.str S0), some (sV u R), e8, e9, e10, e11, e12, e13, e14], m.set q (.lst (L ++ [zeroV]))) := by
  have z3 : (3 : Nat) ≤ sizeLine := le_size (by decide)
  have happ := lstM_z hq (appB2 L zeroV (by omega))
  have happ : lstM appH (.obj q) [.tup [.int 0, .int 0, .int 0]] m = some (.non, m.set q (.lst (L ++ [zeroV]))) := happ
  simp [D_law_0_7, tyM_obj hq, z3, happ]
theorem t8 {L : List Vl} (hq : m[q]? = some (.lst L)) : D_law_0_8 [some (.frl (ns.map .int)), some (.int t), some (.obj n), some (.str u), some (.obj p), some (.obj q), some (.str S0), some (sV u R), e8, e9, e10, e11, e12, e13, e14] m = some (.nx [some (.frl (ns.map .int)), some (.int t), some (.obj n), some (.str u), some (.obj p), some (.obj q), some (.str S0), some (sV u R), e8, e9, e10, e11, e12, e13, e14], m.set q (.lst L.reverse)) := by
  have hr := lstM_z (h := revH) (xs := []) (z := .non) hq rfl
  simp [D_law_0_8, tyM_obj hq, hr]
theorem t9 (hu : u ∈ UQ) (hR : ∀ t ∈ R, t.Ok) (d : Ds u R) (hz : R.length ≤ 50) (hp : m[p]? = some (.lst (R.map Tr.v))) : D_law_0_9 [some (.frl (ns.map .int)), some (.int t), some (.obj n), some (.str u), some (.obj p), some (.obj q), some (.str S0), some (sV u R), e8, e9, e10, e11, e12, e13, e14] m = some (.nx [some (.frl (ns.map .int)), some (.int t), some (.obj n), some (.str u), some (.obj p), some (.obj q), some (.str S0), some (sV u R), e8, e9, e10, e11, e12, e13, e14], m) := by
  have i := is_store_ok (m := m) (x := .obj p) hu hR d (by omega) (.refl _) (lsD_cell hp)
  simp [D_law_0_9, i]
theorem ds_e (d : Ds u R) : Ds "" R := ⟨d.q, fun h => absurd h (by decide), fun h => absurd h (by decide)⟩
theorem t10 (hb : Bag ns n m) (hR : ∀ t ∈ R, t.Ok) (d : Ds u R) (hz : R.length ≤ 50) (hp : m[p]? = some (.lst (R.map Tr.v))) : ∃ m', D_law_0_10 [some (.frl (ns.map .int)), some (.int t), some (.obj n), some (.str u), some (.obj p), some (.obj q), some (.str S0), some (sV u R), e8, e9, e10, e11, e12, e13, e14] m = some (.nx [some (.frl (ns.map .int)), some (.int t), some (.obj n), some (.str u), some (.obj p), some (.obj q), some (.str S0), some (sV u R), some (sV "" R), e9, e10, e11, e12, e13, e14], m') ∧ Fr ns n m m' := by
  obtain ⟨q2, S, m', c, h1, h2, h3, h4, F⟩ := turned_ok hb hR hz hp
  refine ⟨m', ?_, F⟩
  have o := of_perm (u := "") (m := m') (x := .tup (S.map Tr.v)) (by decide) hR (ds_e d) (by omega) h2 rfl
  have tp : tupleF [.obj q2] m' = some (.tup (S.map Tr.v), m') := by
    have sq := seq_i2 h1
    unfold tupleF
    simp only [sq]
  have s := smeth_of0 (da := dB tupleF (dCons (dCall 2 0 c_law_turned_2 (dCons (dVar 2) (dCons (dVar 4) (fun _ m => some (.ok [], m)))) dNone) (fun _ m => some (.ok [], m)))) (env := [some (.frl (ns.map .int)), some (.int t), some (.obj n), some (.str u), some (.obj p), some (.obj q), some (.str S0), some (sV u R), e8, e9, e10, e11, e12, e13, e14]) (m := m) (m1 := m') (by simp [c, tp]) o
  simp [-dSMeth_ap, D_law_0_10, s]
theorem t11 (hu : u ∈ UQ) (hR : ∀ t ∈ R, t.Ok) (d : Ds u R) (hz : R.length ≤ 50) (hp : m[p]? = some (.lst (R.map Tr.v))) : D_law_0_11 [some (.frl (ns.map .int)), some (.int t), some (.obj n), some (.str u), some (.obj p), some (.obj q), some (.str S0), some (sV u R), some (sV "" R), e9, e10, e11, e12, e13, e14] m = some (.nx [some (.frl (ns.map .int)), some (.int t), some (.obj n), some (.str u), some (.obj p), some (.obj q), some (.str S0), some (sV u R), some (sV "" R), e9, e10, e11, e12, e13, e14], m) := by
  have i := is_store_ok (u := "") (m := m) (x := .obj p) (by decide) hR (ds_e d) (by omega) (.refl _) (lsD_cell hp)
  have c := cmp_gen (u := u) (v := "") (R := R) (S := R) hu (by decide) hR hR (da := dVar 7) (db := dVar 8) (env := [some (.frl (ns.map .int)), some (.int t), some (.obj n), some (.str u), some (.obj p), some (.obj q), some (.str S0), some (sV u R), some (sV "" R), e9, e10, e11, e12, e13, e14]) (m := m) (m1 := m) (m2 := m) rfl rfl
  simp only [decide_true, Bool.true_and] at c
  simp [D_law_0_11, i, c]
theorem t12 (hb : Bag ns n m) (hu : u ∈ UQ) (hR : ∀ t ∈ R, t.Ok) (d : Ds u R) (hz : R.length ≤ 50) (hp : m[p]? = some (.lst (R.map Tr.v))) : ∃ m', D_law_0_12 [some (.frl (ns.map .int)), some (.int t), some (.obj n), some (.str u), some (.obj p), some (.obj q), some (.str S0), some (sV u R), some (sV "" R), e9, e10, e11, e12, e13, e14] m = some (.nx [some (.frl (ns.map .int)), some (.int t), some (.obj n), some (.str u), some (.obj p), some (.obj q), some (.str S0), some (sV u R), some (sV "" R), e9, e10, e11, e12, e13, e14], m') ∧ Fr ns n m m' := by
  obtain ⟨q2, S, m', c, h1, h2, h3, h4, F⟩ := turned_ok hb hR hz hp
  refine ⟨m', ?_, F⟩
  have o := of_perm (u := u) (m := m') (x := .obj q2) hu hR d (by omega) h2 (seq_i2 h1)
  have s := smeth_of1 (da := dCall 2 0 c_law_turned_2 (dCons (dVar 2) (dCons (dVar 4) (fun _ m => some (.ok [], m)))) dNone) (dk := dVar 3) (env := [some (.frl (ns.map .int)), some (.int t), some (.obj n), some (.str u), some (.obj p), some (.obj q), some (.str S0), some (sV u R), some (sV "" R), e9, e10, e11, e12, e13, e14]) (m := m) (m1 := m') (by simp [c]) rfl o
  have k := cmp_gen (u := u) (v := u) (R := R) (S := R) hu hu hR hR (da := dVar 7) (env := [some (.frl (ns.map .int)), some (.int t), some (.obj n), some (.str u), some (.obj p), some (.obj q), some (.str S0), some (sV u R), some (sV "" R), e9, e10, e11, e12, e13, e14]) (m := m) (m1 := m) (m2 := m') rfl s
  simp only [decide_true, Bool.true_and, beq_self_eq_true] at k
  simp [-dSMeth_ap, D_law_0_12, k]
end
end
section
theorem sl_1 {xs : List Vl} (m : Mem) : slD (.lst xs) none (some 1) m = some (.lst (xs.take 1), m) := by
  show some (Vl.lst (cutZ xs none (some 1)), m) = _
  unfold cutZ
  have s1 : HT.sIx xs.length 0 none = 0 := rfl
  have s2 : HT.sIx xs.length xs.length (some 1) = min 1 xs.length := rfl
  rw [s1, s2, List.drop_zero, Nat.sub_zero]
  rw [show List.take (min 1 xs.length) xs = List.take 1 xs by
    rw [List.take_eq_take_iff]
    omega]
theorem sl_obj {L : List Vl} {m : Mem} {p : Nat} (h : m[p]? = some (.lst L)) (lo hi : Option Int) : slD (.obj p) lo hi m = slD (.lst L) lo hi m := by
  have sq := seq_i2 h
  have l : lisD m (.obj p) = some L := sq
  have l2 : lisD m (.lst L) = some L := rfl
  unfold slD
  simp only [l, l2]
def tw (r : Tr) : Tr := ⟨r.q, r.a, (r.b + 500) % 1000⟩
theorem tw_ok {r : Tr} (h : r.Ok) : (tw r).Ok := ⟨h.q, h.a, by
  have := h.b
  show 0 ≤ (r.b + 500) % 1000 ∧ (r.b + 500) % 1000 ≤ 999
  omega⟩
section
variable {u : Str} {ns : List Int} {n p q : Nat} {r : Tr} {T : List Tr} {R : List Tr} {m : Mem} {t : Int} {S0 : Str} {e5 e6 e7 e8 e9 e10 e11 e12 e13 e14 : Option Vl}
theorem cons_ok {r : Tr} {T : List Tr} (hR : ∀ t ∈ r :: T, t.Ok) : r.Ok ∧ ∀ t ∈ T, t.Ok := ⟨hR r List.mem_cons_self, fun t ht => hR t (List.mem_cons_of_mem _ ht)⟩
theorem ds_one (d : Ds u (r :: T)) : Ds u [r] := d.sub (List.Sublist.cons₂ r (List.nil_sublist T))
theorem ds_tl (d : Ds u (r :: T)) : Ds u T := d.sub (List.sublist_cons_self r T)
theorem one_ok (h : r.Ok) : ∀ t ∈ [r], t.Ok := fun t ht => by
  rw [List.mem_singleton.mp ht]
  exact h
theorem h0 (hu : u ∈ UQ) (hR : ∀ t ∈ r :: T, t.Ok) (d : Ds u (r :: T)) (hz : (r :: T).length ≤ 50) (hp : m[p]? = some (.lst ((r :: T).map Tr.v))) : D_law_0_13_0 [some (.frl (ns.map .int)), some (.int t), some (.obj n), some (.str u), some (.obj p), some (.obj q), some (.str S0), some (sV u (r :: T)), some (sV "" (r :: T)), e9, e10, e11, e12, e13, e14] m = some (.nx [some (.frl (ns.map .int)), some (.int t), some (.obj n), some (.str u), some (.obj p), some (.obj q), some (.str S0), some (sV u (r :: T)), some (sV "" (r :: T)), e9, some (sV u T), some (sV u [r]), e12, e13, e14], m) := by
  have sl : slD (.obj p) (some 1) none m = some (.lst (T.map Tr.v), m) := by
    rw [sl_obj hp, sl_tl]
    rfl
  have hl : T.length ≤ 60 := by
    rw [List.length_cons] at hz
    omega
  have o := of_perm (m := m) (x := .lst (T.map Tr.v)) hu (cons_ok hR).2 (ds_tl d) hl (.refl _) rfl
  have s := smeth_of1 (da := (dSl (dVar 4) (dPart (dC (.int 1))) (fun _ m => some (.ok none, m)))) (dk := dVar 3) (env := [some (.frl (ns.map .int)), some (.int t), some (.obj n), some (.str u), some (.obj p), some (.obj q), some (.str S0), some (sV u (r :: T)), some (sV "" (r :: T)), e9, e10, e11, e12, e13, e14]) (m := m) (m1 := m) (by
    rw [dSl_ap]
    simp only [dVar_s, dVar_z, bindR_ok, dPart_ap, dC_ap, sl, okR_s]) rfl o
  have ix : ixA (.obj p) (.int 0) m = some (r.v, m) := ixA_obj hp (atI_of (by decide) rfl)
  have mk := make_rows (u := u) (R := [r]) hu (one_ok (cons_ok hR).1) (ds_one d) (by show 1 ≤ 60; decide) m
  have mk : n_Store_init_S1_unique [r.v] [.str u] m = some (.ok (sV u [r]), m) := mk
  simp [-dSMeth_ap, D_law_0_13_0, dPar, s, ix, mk]
theorem len_ne {A B : List Tr} (h : A.length ≠ B.length) : decide (sortR A = sortR B) = false := decide_eq_false fun e => h (by
  have z := congrArg List.length e
  rw [(sortR_perm A).length_eq, (sortR_perm B).length_eq] at z
  exact z)
theorem h1 (hu : u ∈ UQ) (hR : ∀ t ∈ r :: T, t.Ok) (d : Ds u (r :: T)) (hp : m[p]? = some (.lst ((r :: T).map Tr.v))) : D_law_0_13_1 [some (.frl (ns.map .int)), some (.int t), some (.obj n), some (.str u), some (.obj p), some (.obj q), some (.str S0), some (sV u (r :: T)), some (sV "" (r :: T)), e9, some (sV u T), some (sV u [r]), e12, e13, e14] m = some (.nx [some (.frl (ns.map .int)), some (.int t), some (.obj n), some (.str u), some (.obj p), some (.obj q), some (.str S0), some (sV u (r :: T)), some (sV "" (r :: T)), e9, some (sV u T), some (sV u [r]), e12, e13, e14], m) := by
  have c1 := cmp_gen (u := u) (v := u) (R := r :: T) (S := T) hu hu hR (cons_ok hR).2 (da := dVar 7) (db := dVar 10) (env := [some (.frl (ns.map .int)), some (.int t), some (.obj n), some (.str u), some (.obj p), some (.obj q), some (.str S0), some (sV u (r :: T)), some (sV "" (r :: T)), e9, some (sV u T), some (sV u [r]), e12, e13, e14]) (m := m) (m1 := m) (m2 := m) rfl rfl
  have c2 := cmp_gen (u := u) (v := u) (R := T) (S := r :: T) hu hu (cons_ok hR).2 hR (da := dVar 10) (db := dVar 7) (env := [some (.frl (ns.map .int)), some (.int t), some (.obj n), some (.str u), some (.obj p), some (.obj q), some (.str S0), some (sV u (r :: T)), some (sV "" (r :: T)), e9, some (sV u T), some (sV u [r]), e12, e13, e14]) (m := m) (m1 := m) (m2 := m) rfl rfl
  rw [len_ne (by rw [List.length_cons]; omega)] at c1 c2
  simp only [Bool.false_and] at c1 c2
  have sl : slD (.obj p) none (some 1) m = some (.lst ([r].map Tr.v), m) := by
    rw [sl_obj hp, sl_1]
    rfl
  have i := is_store_ok (m := m) (x := .lst ([r].map Tr.v)) hu (one_ok (cons_ok hR).1) (ds_one d) (by show 1 ≤ 60; decide) (.refl _) rfl
  generalize ([r].map Tr.v) = L at sl i
  simp [D_law_0_13_1, c1, c2, sl, i]
theorem h2 (hp : m[p]? = some (.lst ((r :: T).map Tr.v))) : D_law_0_13_2 [some (.frl (ns.map .int)), some (.int t), some (.obj n), some (.str u), some (.obj p), some (.obj q), some (.str S0), some (sV u (r :: T)), some (sV "" (r :: T)), e9, some (sV u T), some (sV u [r]), e12, e13, e14] m = some (.nx [some (.frl (ns.map .int)), some (.int t), some (.obj n), some (.str u), some (.obj p), some (.obj q), some (.str S0), some (sV u (r :: T)), some (sV "" (r :: T)), e9, some (sV u T), some (sV u [r]), some (.int r.q), some (.int r.a), some (.int r.b)], m) := by
  have ix : ixA (.obj p) (.int 0) m = some (r.v, m) := ixA_obj hp (atI_of (by decide) rfl)
  unfold D_law_0_13_2
  rw [dAsgG_ap]
  simp only [d2_ap, dVar_s, dVar_z, bindR_ok, dC_ap, ix, okR_s, bindS_ok]
  rfl
theorem h3 (hz : (r :: T).length ≤ 50) (hp : m[p]? = some (.lst ((r :: T).map Tr.v))) : D_law_0_13_3 [some (.frl (ns.map .int)), some (.int t), some (.obj n), some (.str u), some (.obj p), some (.obj q), some (.str S0), some (sV u (r :: T)), some (sV "" (r :: T)), e9, some (sV u T), some (sV u [r]), some (.int r.q), some (.int r.a), some (.int r.b)] m = some (.nx [some (.frl (ns.map .int)), some (.int t), some (.obj n), some (.str u), some (.obj p), some (.obj q), some (.str S0), some (sV u (r :: T)), some (sV "" (r :: T)), some (.lst ((tw r :: T).map Tr.v)), some (sV u T), some (sV u [r]), some (.int r.q), some (.int r.a), some (.int r.b)], m) := by
  have sl : slD (.obj p) (some 1) none m = some (.lst (T.map Tr.v), m) := by
    rw [sl_obj hp, sl_tl]
    rfl
  have z3 : (3 : Nat) ≤ sizeLine := le_size (by decide)
  have z1 : (1 : Nat) ≤ sizeLine := le_size (by decide)
  have hm : modI (.int (r.b + 500)) (.int 1000) m = some (.int ((r.b + 500) % 1000), m) := modI_int (by decide)
  have ad : addA (.lst [.tup [.int r.q, .int r.a, .int ((r.b + 500) % 1000)]]) (.lst (T.map Tr.v)) m = some (.lst ((tw r :: T).map Tr.v), m) := by
    have e : addL (.lst [.tup [.int r.q, .int r.a, .int ((r.b + 500) % 1000)]]) (.lst (T.map Tr.v)) m = some (.lst ((tw r :: T).map Tr.v), m) := by
      show (if ([Vl.tup [.int r.q, .int r.a, .int ((r.b + 500) % 1000)]].length + (T.map Tr.v).length) ≤ sizeLine then some (Vl.lst ([.tup [.int r.q, .int r.a, .int ((r.b + 500) % 1000)]] ++ T.map Tr.v), m) else none) = _
      rw [if_pos (le_size (by
        rw [List.length_map]
        rw [List.length_cons] at hz
        show 1 + T.length ≤ _
        omega))]
      rfl
    show orF addL addT (.lst _) (.lst _) m = _
    unfold orF
    rw [e]
  generalize ((tw r :: T).map Tr.v) = L at ad
  simp [D_law_0_13_3, sl, z3, z1, hm, ad, intFn]
theorem tw_ne (d : Ds u (r :: T)) (h : r.Ok) : decide (sortR (tw r :: T) = sortR (r :: T)) = false := decide_eq_false fun e => by
  have pe : (tw r :: T).Perm (r :: T) := ((sortR_perm _).symm.trans (by rw [e])).trans (sortR_perm _)
  have hm : tw r ∈ r :: T := pe.mem_iff.mp List.mem_cons_self
  rcases List.mem_cons.mp hm with z | z
  · have z := congrArg Tr.b z
    have hb := h.b
    have z : (r.b + 500) % 1000 = r.b := z
    omega
  · have nd := d.q
    rw [List.map_cons, List.nodup_cons] at nd
    exact nd.1 (List.mem_map.mpr ⟨tw r, z, rfl⟩)
theorem h4 (hu : u ∈ UQ) (hR : ∀ t ∈ r :: T, t.Ok) (d : Ds u (r :: T)) (hz : (r :: T).length ≤ 50) : D_law_0_13_4 [some (.frl (ns.map .int)), some (.int t), some (.obj n), some (.str u), some (.obj p), some (.obj q), some (.str S0), some (sV u (r :: T)), some (sV "" (r :: T)), some (.lst ((tw r :: T).map Tr.v)), some (sV u T), some (sV u [r]), some (.int r.q), some (.int r.a), some (.int r.b)] m = some (.nx [some (.frl (ns.map .int)), some (.int t), some (.obj n), some (.str u), some (.obj p), some (.obj q), some (.str S0), some (sV u (r :: T)), some (sV "" (r :: T)), some (.lst ((tw r :: T).map Tr.v)), some (sV u T), some (sV u [r]), some (.int r.q), some (.int r.a), some (.int r.b)], m) := by
  have hR' : ∀ t ∈ tw r :: T, t.Ok := fun t ht => by
    rcases List.mem_cons.mp ht with rfl | h
    · exact tw_ok (cons_ok hR).1
    · exact (cons_ok hR).2 t h
  have d' : Ds "" (tw r :: T) := ⟨d.q, fun h => absurd h (by decide), fun h => absurd h (by decide)⟩
  have o := of_perm (u := "") (m := m) (x := .lst ((tw r :: T).map Tr.v)) (by decide) hR' d' (by
    rw [List.length_cons] at hz ⊢
    omega) (.refl _) rfl
  have s := smeth_of0 (da := dVar 9) (env := [some (.frl (ns.map .int)), some (.int t), some (.obj n), some (.str u), some (.obj p), some (.obj q), some (.str S0), some (sV u (r :: T)), some (sV "" (r :: T)), some (.lst ((tw r :: T).map Tr.v)), some (sV u T), some (sV u [r]), some (.int r.q), some (.int r.a), some (.int r.b)]) (m := m) (m1 := m) rfl o
  have c1 := cmp_gen (u := "") (v := "") (R := tw r :: T) (S := r :: T) (by decide) (by decide) hR' hR (db := dVar 8) (env := [some (.frl (ns.map .int)), some (.int t), some (.obj n), some (.str u), some (.obj p), some (.obj q), some (.str S0), some (sV u (r :: T)), some (sV "" (r :: T)), some (.lst ((tw r :: T).map Tr.v)), some (sV u T), some (sV u [r]), some (.int r.q), some (.int r.a), some (.int r.b)]) (m := m) (m1 := m) (m2 := m) s rfl
  have c2 := cmp_gen (u := "") (v := "") (R := r :: T) (S := tw r :: T) (by decide) (by decide) hR hR' (da := dVar 8) (env := [some (.frl (ns.map .int)), some (.int t), some (.obj n), some (.str u), some (.obj p), some (.obj q), some (.str S0), some (sV u (r :: T)), some (sV "" (r :: T)), some (.lst ((tw r :: T).map Tr.v)), some (sV u T), some (sV u [r]), some (.int r.q), some (.int r.a), some (.int r.b)]) (m := m) (m1 := m) (m2 := m) rfl s
  have ne := tw_ne d (cons_ok hR).1
  have ne2 : decide (sortR (r :: T) = sortR (tw r :: T)) = false := decide_eq_false fun e => (of_decide_eq_false ne) e.symm
  rw [ne] at c1
  rw [ne2] at c2
  simp only [Bool.false_and] at c1 c2
  simp [-dSMeth_ap, -List.map_cons, D_law_0_13_4, c1, c2]
theorem t13 (hu : u ∈ UQ) (hR : ∀ t ∈ R, t.Ok) (d : Ds u R) (hz : R.length ≤ 50) (hp : m[p]? = some (.lst (R.map Tr.v))) : ∃ f9 f10 f11 f12 f13 f14, D_law_0_13 [some (.frl (ns.map .int)), some (.int t), some (.obj n), some (.str u), some (.obj p), some (.obj q), some (.str S0), some (sV u R), some (sV "" R), e9, e10, e11, e12, e13, e14] m = some (.nx [some (.frl (ns.map .int)), some (.int t), some (.obj n), some (.str u), some (.obj p), some (.obj q), some (.str S0), some (sV u R), some (sV "" R), f9, f10, f11, f12, f13, f14], m) := by
  have ne := cell_nil2 (rsm_all hR) hp
  cases R with
  | nil =>
    refine ⟨e9, e10, e11, e12, e13, e14, ?_⟩
    have ne : neF (.obj p) (.lst []) m = some (.bl false, m) := ne
    simp [D_law_0_13, ne]
  | cons r T =>
    have ne : neF (.obj p) (.lst []) m = some (.bl true, m) := ne
    refine ⟨some (.lst ((tw r :: T).map Tr.v)), some (sV u T), some (sV u [r]), some (.int r.q), some (.int r.a), some (.int r.b), ?_⟩
    have b : dSeq D_law_0_13_0 (dSeq D_law_0_13_1 (dSeq D_law_0_13_2 (dSeq D_law_0_13_3 D_law_0_13_4))) [some (.frl (ns.map .int)), some (.int t), some (.obj n), some (.str u), some (.obj p), some (.obj q), some (.str S0), some (sV u (r :: T)), some (sV "" (r :: T)), e9, e10, e11, e12, e13, e14] m = _ := seq_nx (h0 hu hR d hz hp) (seq_nx (h1 hu hR d hp) (seq_nx (h2 hp) (seq_nx (h3 hz hp) (h4 hu hR d hz))))
    have tt : b2 neF (dVar 4) (dFrz (dLst (fun _ m => some (.ok [], m)))) [some (.frl (ns.map .int)), some (.int t), some (.obj n), some (.str u), some (.obj p), some (.obj q), some (.str S0), some (sV u (r :: T)), some (sV "" (r :: T)), e9, e10, e11, e12, e13, e14] m = some (.ok true, m) := by simp [ne]
    unfold D_law_0_13
    rw [dIfS_ap, tt]
    exact b
theorem t14 (hu : u ∈ UQ) (hR : ∀ t ∈ R, t.Ok) (d : Ds u R) (hz : R.length ≤ 50) (hp : m[p]? = some (.lst (R.map Tr.v))) : D_law_0_14 [some (.frl (ns.map .int)), some (.int t), some (.obj n), some (.str u), some (.obj p), some (.obj q), some (.str S0), some (sV u R), some (sV "" R), e9, e10, e11, e12, e13, e14] m = some (.nx [some (.frl (ns.map .int)), some (.int t), some (.obj n), some (.str u), some (.obj p), some (.obj q), some (.str S0), some (sV u R), some (sV "" R), e9, e10, e11, e12, e13, e14], m) := by
  have hlen := lenF_obj hp
  rw [List.length_map] at hlen
  by_cases h : 2 < R.length
  · match R, h with
    | r0 :: r1 :: r2 :: T, _ =>
      have i0 : ixA (.obj p) (.int 0) m = some (r0.v, m) := ixA_obj hp (atI_of (by decide) rfl)
      have i1 : ixA (.obj p) (.int 1) m = some (r1.v, m) := ixA_obj hp (atI_of (by decide) rfl)
      have i2 : ixA (.obj p) (.int 2) m = some (r2.v, m) := ixA_obj hp (atI_of (by decide) rfl)
      have sb : ([r0, r1, r2] : List Tr).Sublist (r0 :: r1 :: r2 :: T) := .cons₂ _ (.cons₂ _ (.cons₂ _ (List.nil_sublist T)))
      have pe : ([r2, r0, r1] : List Tr).Perm [r0, r1, r2] := ((List.Perm.swap r0 r2 [r1]).trans ((List.Perm.swap r1 r2 []).cons r0))
      have d3 : Ds u [r2, r0, r1] := (d.sub sb).perm pe
      have hk : ∀ t ∈ ([r2, r0, r1] : List Tr), t.Ok := fun t ht => hR t (sb.subset (pe.mem_iff.mp ht))
      have mk := make_rows (u := u) (R := [r2, r0, r1]) hu hk d3 (by show 3 ≤ 60; decide) m
      have mk : n_Store_init_S1_unique [r2.v, r0.v, r1.v] [.str u] m = some (.ok (sV u [r2, r0, r1]), m) := mk
      have sl : slD (.obj p) none (some 3) m = some (.lst ([r0, r1, r2].map Tr.v), m) := by
        rw [sl_obj hp, sl_3]
        rfl
      have i := is_store_ok (m := m) (x := .lst ([r0, r1, r2].map Tr.v)) hu hk d3 (by show 3 ≤ 60; decide) pe.symm rfl
      generalize ([r0, r1, r2].map Tr.v) = L at sl i
      generalize sV u [r2, r0, r1] = s3 at mk i
      have gt : (2 : Int) < ((r0 :: r1 :: r2 :: T).length : Nat) := by
        simp only [List.length_cons]
        omega
      generalize (((r0 :: r1 :: r2 :: T).length : Nat) : Int) = k at hlen gt
      simp [D_law_0_14, hlen, gt, i0, i1, i2, mk, sl, i]
  · have gt : ¬ (2 : Int) < (R.length : Nat) := by omega
    generalize ((R.length : Nat) : Int) = k at hlen gt
    simp [D_law_0_14, hlen, gt]
end
end
section
def turnD : DS := dSeq D_law_0_0 (dSeq D_law_0_1 (dSeq D_law_0_2 (dSeq D_law_0_3 (dSeq D_law_0_4 (dSeq D_law_0_5 (dSeq D_law_0_6 (dSeq D_law_0_7 (dSeq D_law_0_8 (dSeq D_law_0_9 (dSeq D_law_0_10 (dSeq D_law_0_11 (dSeq D_law_0_12 (dSeq D_law_0_13 (D_law_0_14))))))))))))))
theorem turn_ok (ns : List Int) (hns : ns.length ≤ 63) (t : Int) (ht : 0 ≤ t) (m : Mem) (e2 e3 e4 e5 e6 e7 e8 e9 e10 e11 e12 e13 e14 : Option Vl) : ∃ (f2 f3 f4 f5 f6 f7 f8 f9 f10 f11 f12 f13 f14 : Option Vl) (m' : Mem), turnD [some (.frl (ns.map .int)), some (.int t), e2, e3, e4, e5, e6, e7, e8, e9, e10, e11, e12, e13, e14] m = some (.nx [some (.frl (ns.map .int)), some (.int t), f2, f3, f4, f5, f6, f7, f8, f9, f10, f11, f12, f13, f14], m') := by
  obtain ⟨c, b, h⟩ := start_ok ns hns t ht m
  have B0 : Bag ns m.length (m ++ [Cell.lst [.int c, .int b, .int 0, .lst (ns.map .int)]]) := ⟨c, b, 0, by simp⟩
  have t0 : D_law_0_0 [some (.frl (ns.map .int)), some (.int t), e2, e3, e4, e5, e6, e7, e8, e9, e10, e11, e12, e13, e14] m = some (.nx [some (.frl (ns.map .int)), some (.int t), some (.obj m.length), e3, e4, e5, e6, e7, e8, e9, e10, e11, e12, e13, e14], m ++ [Cell.lst [.int c, .int b, .int 0, .lst (ns.map .int)]]) := by simp [D_law_0_0, h]
  obtain ⟨uv, m1, huv, c1, F1⟩ := pick_i B0 [.str "", .str "a", .str "b", .str "ab"] (by decide) (by decide)
  obtain ⟨u, hu, rfl⟩ : ∃ u, u ∈ UQ ∧ uv = .str u := by
    have huv : uv ∈ UQ.map Vl.str := huv
    obtain ⟨u, h1, h2⟩ := List.mem_map.mp huv
    exact ⟨u, h1, h2.symm⟩
  have z4 : (4 : Nat) ≤ sizeLine := le_size (by decide)
  have t1 : D_law_0_1 [some (.frl (ns.map .int)), some (.int t), some (.obj m.length), e3, e4, e5, e6, e7, e8, e9, e10, e11, e12, e13, e14] (m ++ [Cell.lst [.int c, .int b, .int 0, .lst (ns.map .int)]]) = some (.nx [some (.frl (ns.map .int)), some (.int t), some (.obj m.length), some (.str u), e4, e5, e6, e7, e8, e9, e10, e11, e12, e13, e14], m1) := by simp [D_law_0_1, z4, c1]
  obtain ⟨kv, m2, hkv, c2, F2⟩ := pick_i F1.bag [.int 3, .int 4, .int 9, .int 40] (by decide) (by decide)
  obtain ⟨k, rfl, k0, k1⟩ : ∃ k : Int, kv = .int k ∧ 0 ≤ k ∧ k ≤ 40 := by
    simp only [List.mem_cons, List.not_mem_nil, or_false] at hkv
    rcases hkv with rfl | rfl | rfl | rfl
    · exact ⟨_, rfl, by decide, by decide⟩
    · exact ⟨_, rfl, by decide, by decide⟩
    · exact ⟨_, rfl, by decide, by decide⟩
    · exact ⟨_, rfl, by decide, by decide⟩
  obtain ⟨Ts, p0, m3, cr, hp0, hT, hD, hTl, _, hpn0, F3⟩ := rows_ok hu F2.bag k k0 (by omega)
  have hz : Ts.length ≤ 50 := by omega
  have t2 : D_law_0_2 [some (.frl (ns.map .int)), some (.int t), some (.obj m.length), some (.str u), e4, e5, e6, e7, e8, e9, e10, e11, e12, e13, e14] m1 = some (.nx [some (.frl (ns.map .int)), some (.int t), some (.obj m.length), some (.str u), some (.obj p0), e5, e6, e7, e8, e9, e10, e11, e12, e13, e14], m3) := by simp [D_law_0_2, z4, c2, cr]
  obtain ⟨q, S, m4, h3, hq, pe, q1, q2, F4⟩ := t3 (u := u) (t := t) (p := p0) (m := m3) (e5 := e5) (e6 := e6) (e7 := e7) (e8 := e8) (e9 := e9) (e10 := e10) (e11 := e11) (e12 := e12) (e13 := e13) (e14 := e14) F3.bag hT hz hp0
  have hp4 := F4.at hp0 hpn0
  have hpq : q ≠ p0 := by
    have := getlt hp0
    omega
  have hS : ∀ t ∈ S, t.Ok := fun t ht => hT t (pe.mem_iff.mp ht)
  obtain ⟨S0, hs, h4'⟩ := t4 (u := u) (ns := ns) (t := t) (n := m.length) (p := p0) (m := m4) (e6 := e6) (e7 := e7) (e8 := e8) (e9 := e9) (e10 := e10) (e11 := e11) (e12 := e12) (e13 := e13) (e14 := e14) hS (by rw [pe.length_eq]; exact hz) hq
  have h5 := t5 (u := u) (ns := ns) (t := t) (n := m.length) (p := p0) (m := m4) (S0 := S0) (e7 := e7) (e8 := e8) (e9 := e9) (e10 := e10) (e11 := e11) (e12 := e12) (e13 := e13) (e14 := e14) hu hT hD hz pe hq
  have h6 := t6 (u := u) (ns := ns) (t := t) (n := m.length) (p := p0) (m := m4) (S0 := S0) (e8 := e8) (e9 := e9) (e10 := e10) (e11 := e11) (e12 := e12) (e13 := e13) (e14 := e14) hu hT hD hz hp4 hs
  have h7 := t7 (u := u) (R := Ts) (ns := ns) (t := t) (n := m.length) (p := p0) (m := m4) (S0 := S0) (e8 := e8) (e9 := e9) (e10 := e10) (e11 := e11) (e12 := e12) (e13 := e13) (e14 := e14) hq (by rw [List.length_map, pe.length_eq]; omega)
  have hq5 : (m4.set q (.lst (S.map Tr.v ++ [zeroV])))[q]? = some (.lst (S.map Tr.v ++ [zeroV])) := get_set hq
  have h8 := t8 (u := u) (R := Ts) (ns := ns) (t := t) (n := m.length) (p := p0) (S0 := S0) (e8 := e8) (e9 := e9) (e10 := e10) (e11 := e11) (e12 := e12) (e13 := e13) (e14 := e14) hq5
  have hp6 : ((m4.set q (.lst (S.map Tr.v ++ [zeroV]))).set q (.lst (S.map Tr.v ++ [zeroV]).reverse))[p0]? = some (.lst (Ts.map Tr.v)) := by
    rw [List.getElem?_set_ne hpq, List.getElem?_set_ne hpq]
    exact hp4
  have B6 := (F4.bag.set q2 (.lst (S.map Tr.v ++ [zeroV]))).set q2 (.lst (S.map Tr.v ++ [zeroV]).reverse)
  generalize (m4.set q (.lst (S.map Tr.v ++ [zeroV]))).set q (.lst (S.map Tr.v ++ [zeroV]).reverse) = m6 at h8 hp6 B6
  have h9 := t9 (u := u) (ns := ns) (t := t) (n := m.length) (p := p0) (q := q) (m := m6) (S0 := S0) (e8 := e8) (e9 := e9) (e10 := e10) (e11 := e11) (e12 := e12) (e13 := e13) (e14 := e14) hu hT hD hz hp6
  obtain ⟨m7, h10, F7⟩ := t10 (u := u) (t := t) (p := p0) (q := q) (m := m6) (S0 := S0) (e8 := e8) (e9 := e9) (e10 := e10) (e11 := e11) (e12 := e12) (e13 := e13) (e14 := e14) B6 hT hD hz hp6
  have hp7 := F7.at hp6 hpn0
  have h11 := t11 (u := u) (ns := ns) (t := t) (n := m.length) (p := p0) (q := q) (m := m7) (S0 := S0) (e9 := e9) (e10 := e10) (e11 := e11) (e12 := e12) (e13 := e13) (e14 := e14) hu hT hD hz hp7
  obtain ⟨m8, h12, F8⟩ := t12 (u := u) (t := t) (p := p0) (q := q) (m := m7) (S0 := S0) (e9 := e9) (e10 := e10) (e11 := e11) (e12 := e12) (e13 := e13) (e14 := e14) F7.bag hu hT hD hz hp7
  have hp8 := F8.at hp7 hpn0
  obtain ⟨f9, f10, f11, f12, f13, f14, h13⟩ := t13 (u := u) (ns := ns) (t := t) (n := m.length) (p := p0) (q := q) (m := m8) (S0 := S0) (e9 := e9) (e10 := e10) (e11 := e11) (e12 := e12) (e13 := e13) (e14 := e14) hu hT hD hz hp8
  have h14 := t14 (u := u) (ns := ns) (t := t) (n := m.length) (p := p0) (q := q) (m := m8) (S0 := S0) (e9 := f9) (e10 := f10) (e11 := f11) (e12 := f12) (e13 := f13) (e14 := f14) hu hT hD hz hp8
  exact ⟨_, _, _, _, _, _, _, _, _, _, _, _, _, m8, seq_nx t0 (seq_nx t1 (seq_nx t2 (seq_nx h3 (seq_nx h4' (seq_nx h5 (seq_nx h6 (seq_nx h7 (seq_nx h8 (seq_nx h9 (seq_nx h10 (seq_nx h11 (seq_nx h12 (seq_nx h13 h14)))))))))))))⟩
theorem pos_int {x : Vl} : ∀ {n : Nat} {a : Int}, x ∈ intsZ a n → ∃ t : Int, a ≤ t ∧ x = .int t := by
  intro n a h
  unfold intsZ at h
  obtain ⟨i, _, rfl⟩ := List.mem_map.mp h
  exact ⟨_, by omega, rfl⟩
theorem ds0 (u : Str) : Ds u [] := ⟨by simp, fun _ => by simp, fun _ => by simp⟩
theorem nok : ∀ t ∈ ([] : List Tr), t.Ok := fun t ht => nomatch ht
theorem last_ok (env : Ev) (m : Mem) : ∃ m', D_law_1 env m = some (.rt (.bl true), m') := by
  have s0 := store0 m
  have s1 := make_rows (u := "ab") (R := []) (by decide) nok (ds0 _) (by decide) m
  have s1 : n_Store_init_S1_unique [] [.str "ab"] m = some (.ok (sV "ab" []), m) := s1
  have i0 := is_store_ok (u := "") (R := []) (S := []) (m := m) (x := .lst []) (by decide) nok (ds0 _) (by decide) (.refl _) rfl
  have i1 := is_store_ok (u := "ab") (R := []) (S := []) (m := m) (x := .lst []) (by decide) nok (ds0 _) (by decide) (.refl _) rfl
  have o := of_perm (u := "") (R := []) (S := []) (m := m) (x := .lst []) (by decide) nok (ds0 _) (by decide) (.refl _) rfl
  have z0 : (0 : Nat) ≤ sizeLine := Nat.zero_le _
  have s := smeth_of0 (da := dFrz (dLst (fun _ m => some (.ok [], m)))) (env := env) (m := m) (m1 := m) (by simp) o
  have k := cmp_gen (u := "") (v := "") (R := []) (S := []) (by decide) (by decide) nok nok (da := dCall 0 0 n_Store_init_S1 dNone dNone) (env := env) (m := m) (m1 := m) (m2 := m) (by simp [s0]) s
  simp only [decide_true, Bool.true_and, beq_self_eq_true] at k
  exact ⟨m, by simp [-dSMeth_ap, D_law_1, s0, s1, i0, i1, k]⟩
theorem law_true (ns : List Int) (hns : ns.length ≤ 63) (_ : ∀ z ∈ ns, Builtin.Int.intBits z ≤ 1048576) : ∃ m', B_law [.frl (ns.map Vl.int)] [] = some (.ok (.bl true), m') := by
  show ∃ m', bodyD 15 D_law [.frl (ns.map Vl.int)] [] = some (.ok (.bl true), m')
  refine wp_fin ?_
  refine wp_body ?_
  rw [show startZ 15 [.frl (ns.map Vl.int)] = [some (.frl (ns.map .int)), none, none, none, none, none, none, none, none, none, none, none, none, none, none] from rfl]
  rw [show D_law = dSeq (dFor (iRg1 (dCons (dB (two maxZ) (dCons (dC (.int 1)) (dCons (dB (two minZ) (dCons (dC (.int 4)) (dCons (dB lenF (dCons (dVar 0) (fun _ m => some (.ok [], m)))) (fun _ m => some (.ok [], m))))) (fun _ m => some (.ok [], m))))) (fun _ m => some (.ok [], m)))) (gVar 1) turnD) D_law_1 from rfl]
  rw [dSeq_ap, dFor_ap]
  have hk : (-(2 ^ 62) ≤ maxZ 1 (minZ 4 ns.length)) ∧ maxZ 1 (minZ 4 ns.length) < 2 ^ 62 := by
    unfold maxZ minZ
    omega
  have hr : rng1 [.int (maxZ 1 (minZ 4 ns.length))] = some (intsZ 0 (maxZ 1 (minZ 4 ns.length)).toNat) := by
    unfold rng1
    simp only [hk.1, hk.2, decide_true, Bool.and_self, if_true]
  simp only [iRg1_ap, dCons_ap, dB_ap, dC_ap, dVar_z, bindR_ok, okR_s, lenF_frl, two_int, List.length_map, hr, bindS_ok]
  refine wp_for (P := fun env m => ∃ (e1 e2 e3 e4 e5 e6 e7 e8 e9 e10 e11 e12 e13 e14 : Option Vl), env = [some (.frl (ns.map .int)), e1, e2, e3, e4, e5, e6, e7, e8, e9, e10, e11, e12, e13, e14]) ⟨_, _, _, _, _, _, _, _, _, _, _, _, _, _, rfl⟩ ?_ ?_
  · rintro x hx env m ⟨e1, e2, e3, e4, e5, e6, e7, e8, e9, e10, e11, e12, e13, e14, rfl⟩
    obtain ⟨t, ht, rfl⟩ := pos_int hx
    obtain ⟨f2, f3, f4, f5, f6, f7, f8, f9, f10, f11, f12, f13, f14, m', h⟩ := turn_ok ns hns t ht m e2 e3 e4 e5 e6 e7 e8 e9 e10 e11 e12 e13 e14
    refine ⟨_, _, rfl, ?_⟩
    show wpO (turnD [some (.frl (ns.map .int)), some (.int t), e2, e3, e4, e5, e6, e7, e8, e9, e10, e11, e12, e13, e14] m) _
    rw [h, wpO_some]
    exact ⟨_, rfl, _, _, _, _, _, _, _, _, _, _, _, _, _, _, rfl⟩
  · rintro env m ⟨e1, e2, e3, e4, e5, e6, e7, e8, e9, e10, e11, e12, e13, e14, rfl⟩
    obtain ⟨m', h⟩ := last_ok [some (.frl (ns.map .int)), e1, e2, e3, e4, e5, e6, e7, e8, e9, e10, e11, e12, e13, e14] m
    show wpO (D_law_1 _ m) _
    rw [h, wpO_some]
end
abbrev looseL : List Str := ["_wall", "BadRow", "BadUnique", "NoRow", "KeyTaken", "Taken", "TOP", "is_value", "is_unique", "is_row", "Store", "_law_start", "_law_draw", "_law_pick", "_law_turned", "_law_cell", "_law_rows", "_law_is_store"]
theorem progF : ProgF (PySem.Challenge.rw_lateflushes_k01_rows_made).prog fileZ := ⟨by decide +kernel, by decide +kernel⟩
/-! ### the head -/
abbrev Rw : PySem.W.OpenRow := PySem.W.OpenLaw.row PySem.Challenge.rw_lateflushes_k01_rows_made
abbrev hk : PySem.W.Hook := hookZ 5 cks dzs ezs
def ob (s : PySem.W.SharedT) : AlZ := obsZG 5 cks dzs ezs (HandSHeadRun.getT s)
theorem ob_eq (s : PySem.W.SharedT) : ob s = hk.obs s.abs := obsZG_eq (HandSHeadRun.getT_eq s)
theorem run (w : World) : HandSHeadRun.RunEq Rw (PySem.W.view Rw.prog [22]) hk ob 6000 K01.looseL w := by
  intro os
  kernel_rfl
end K01
open PySem PySem.W PySem.Calls PyProof.Rows
theorem PySem.Challenge.cw_lateflushes_k01_rows_made_holds : PySem.Challenge.rw_lateflushes_k01_rows_made.Holds := by
  w_on; o_law
  refine HandSHeadRun.head_any (r := OpenLaw.row PySem.Challenge.rw_lateflushes_k01_rows_made) (q := view (OpenLaw.row PySem.Challenge.rw_lateflushes_k01_rows_made).prog [22]) (H := K01.hk) (ob := K01.ob) (M := 6000) (loose := K01.looseL) (d := HandSHeadRun.topDef (OpenLaw.row PySem.Challenge.rw_lateflushes_k01_rows_made).prog 22) (kwd := []) K01.ob_eq
    (by kernel_rfl) (fun s => by kernel_rfl) K01.run (by kernel_rfl) (by kernel_rfl) (by kernel_rfl) (by rfl) (by first | assumption | decide +kernel) (by decide +kernel) ⟨rfl, rfl, rfl, rfl, rfl, by decide +kernel⟩ ?hw ?hc
  case hw => w_witness2
  case hc =>
    refine Z.walk_end (l := PySem.Challenge.rw_lateflushes_k01_rows_made) (n := 63) (k := 6) (x := "_law_script") (g := K01.B_law) rfl (by decide) (by kernel_rfl) ⟨⟨rfl, by decide, by decide⟩, rfl⟩ ?F K01.law_true
    intro w mg fa h Y G hmg0
    obtain ⟨K, KX, c⟩ := Y
    have hmg : mg ("law" : PySem.Str) = some (.ref fa) := by
      have e : (HandSHeadRun.topDef (OpenLaw.row PySem.Challenge.rw_lateflushes_k01_rows_made).prog 22).name = ("law" : PySem.Str) := by kernel_rfl
      rw [← e]
      exact hmg0
    have Xf := K01.fx_of (P := (PySem.Challenge.rw_lateflushes_k01_rows_made).prog) K01.progF KX G c
    have Df := K01.dx_of c
    obtain ⟨fd, F⟩ := Df.d_law
    have e := hmg.symm.trans Xf.g_law
    cases e
    have b := L2.FunD.bindsA (ps := ["_law_script"]) F fun _ _ _ _ _ _ us hl => match us, hl with | [_], _ => rfl
    exact ⟨K, fd, KX, fun s v => b s [v] rfl, fun base hK hG => K01.ok_law (K01.fx_of (P := (PySem.Challenge.rw_lateflushes_k01_rows_made).prog) K01.progF hK hG c) Df F⟩
